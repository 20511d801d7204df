import PyProof.Rows.All
import Wide.All
import OpenK.AllK
import Wide.FinOn
import HandS.ForMost
import HandS.Wide
import HandS.Deep
import HandS.Gcd
import HandS.TupAny
import PyProof.NeKinds
import HandS.IsInst
import HandS.Text
import HandS.Defaults
import HandS.WideBits
import HandS.Head0
import HandS.Head1
import HandS.Head2
import HandS.Head3
import HandS.HeadEnd
import HandS.HeadHook1
import HandS.HeadHook2
import HandS.EndBits
import PySem.Challenge.RW_rightchance_k05_whole_laws_of_fractions
set_option Elab.async false
set_option autoImplicit false
set_option linter.all false
set_option maxRecDepth 100000
set_option maxHeartbeats 4000000
set_option maxHeartbeats 0 in
set_option exponentiation.threshold 20000
/-! DL0: data without addresses (D), the world (Wd), representation, expression readings lifted to data -/
namespace DL
open PySem L2

inductive D where
  | non | bl (b : Bool) | int (i : Int) | str (s : Str) | ref (i : Nat)
  | tup (ds : List D) | lst (ds : List D) | rol (ds : List D) | set (ds : List D) | dct (ks vs : List D)

/-- shared objects, frozen objects, the script -/
structure Wd where
  m : List Addr
  T : Addr → Option HO
  sa : Option (Addr × List V)

mutual
def Rep (W : Wd) : D → V → Prop
  | .non, v => v = .non
  | .bl b, v => v = .bl b
  | .int i, v => v = .int i
  | .str s, v => v = .str s
  | .ref i, v => ∃ a, W.m[i]? = some a ∧ v = .ref a
  | .tup ds, v => ∃ a vs, v = .ref a ∧ W.T a = some (.tup vs) ∧ Reps W ds vs
  | .lst ds, v => ∃ a vs, v = .ref a ∧ W.T a = some (.lst vs) ∧ Reps W ds vs
  | .rol ds, v => ∃ a vs, v = .ref a ∧ W.sa = some (a, vs) ∧ Reps W ds vs
  | .set _, _ => False
  | .dct _ _, _ => False
def Reps (W : Wd) : List D → List V → Prop
  | [], vs => vs = []
  | d :: ds, vs => ∃ v r, vs = v :: r ∧ Rep W d v ∧ Reps W ds r
end

structure Le (W W' : Wd) : Prop where
  m : ∀ (i : Nat) (a : Addr), W.m[i]? = some a → W'.m[i]? = some a
  T : ∀ a o, W.T a = some o → W'.T a = some o
  sa : W'.sa = W.sa
theorem Le.refl (W : Wd) : Le W W := ⟨fun _ _ h => h, fun _ _ h => h, rfl⟩
theorem Le.trans {W1 W2 W3 : Wd} (a : Le W1 W2) (b : Le W2 W3) : Le W1 W3 := ⟨fun i x h => b.m i x (a.m i x h), fun i x h => b.T i x (a.T i x h), b.sa.trans a.sa⟩

mutual
theorem Rep.mono {W W' : Wd} (l : Le W W') : ∀ (d : D) {v : V}, Rep W d v → Rep W' d v
  | .non, _, h => h
  | .bl _, _, h => h
  | .int _, _, h => h
  | .str _, _, h => h
  | .ref i, _, h => by
    obtain ⟨a, h1, h2⟩ := h
    exact ⟨a, l.m _ _ h1, h2⟩
  | .tup ds, _, h => by
    obtain ⟨a, vs, h1, h2, h3⟩ := h
    exact ⟨a, vs, h1, l.T _ _ h2, Reps.mono l ds h3⟩
  | .lst ds, _, h => by
    obtain ⟨a, vs, h1, h2, h3⟩ := h
    exact ⟨a, vs, h1, l.T _ _ h2, Reps.mono l ds h3⟩
  | .rol ds, _, h => by
    obtain ⟨a, vs, h1, h2, h3⟩ := h
    exact ⟨a, vs, h1, l.sa.trans h2, Reps.mono l ds h3⟩
  | .set _, _, h => False.elim h
  | .dct _ _, _, h => False.elim h
theorem Reps.mono {W W' : Wd} (l : Le W W') : ∀ (ds : List D) {vs : List V}, Reps W ds vs → Reps W' ds vs
  | [], _, h => h
  | d :: ds, _, h => by
    obtain ⟨v, r, h1, h2, h3⟩ := h
    exact ⟨v, r, h1, Rep.mono l d h2, Reps.mono l ds h3⟩
end
theorem Reps.length {W : Wd} : ∀ {ds : List D} {vs : List V}, Reps W ds vs → vs.length = ds.length
  | [], _, h => by obtain rfl : _ = [] := h; rfl
  | d :: ds, _, h => by
    obtain ⟨v, r, rfl, _, h3⟩ := h
    simp [Reps.length h3]
theorem Reps.get {W : Wd} : ∀ {ds : List D} {vs : List V} {i : Nat} {d : D}, Reps W ds vs → ds[i]? = some d → ∃ v, vs[i]? = some v ∧ Rep W d v
  | [], _, i, d, h, e => by simp at e
  | x :: ds, _, 0, d, h, e => by
    obtain ⟨v, r, rfl, h2, h3⟩ := h
    simp at e; subst e
    exact ⟨v, rfl, h2⟩
  | x :: ds, _, i + 1, d, h, e => by
    obtain ⟨v, r, rfl, h2, h3⟩ := h
    obtain ⟨u, h4, h5⟩ := Reps.get (i := i) h3 (by simpa using e)
    exact ⟨u, by simpa using h4, h5⟩
theorem Reps.append {W : Wd} : ∀ {ds es : List D} {vs us : List V}, Reps W ds vs → Reps W es us → Reps W (ds ++ es) (vs ++ us)
  | [], _, _, _, h, h' => by obtain rfl : _ = [] := h; exact h'
  | d :: ds, _, _, _, h, h' => by
    obtain ⟨v, r, rfl, h2, h3⟩ := h
    exact ⟨v, _, rfl, h2, Reps.append h3 h'⟩
theorem Reps.one {W : Wd} {d : D} {v : V} (h : Rep W d v) : Reps W [d] [v] := ⟨v, [], rfl, h, rfl⟩

/-- an object of the world stands in the heap (a dict while a loop walks it is locked) -/
def isDk : HO → Bool
  | .lst _ => false
  | .tup _ => false
  | _ => true
def Stands (H : Hp) (a : Addr) (o : HO) : Prop := H a = some o ∨ (isDk o = true ∧ ∃ x, H a = some (.frz x o))

abbrev Sh := List (List D)
/-- the script: locked, or an object of the module -/
def SaOk (K : PySem.W.Frag) (H : Hp) (a : Addr) (xs : List V) : Prop := (∃ o, H a = some (.frz o (.lst xs))) ∨
    ∃ (o : Obj) (its : Array Value) (n : Nat), K.lookup a = some o ∧ o.cls = .type "list" ∧ o.dict = none ∧ o.data = .seq its n ∧ its.size ≤ sizeLine ∧ Vals xs its.toList
theorem SaOk.seq {K : PySem.W.Frag} {H : Hp} {a : Addr} {xs : List V} (h : SaOk K H a xs) : SqL K H a xs := by
  rcases h with ⟨o, h⟩ | h
  · exact .inl (.inr ⟨o, h⟩)
  · exact .inr h

/-- heap and world agree; S: the shared lists -/
structure Base (K : PySem.W.Frag) (W : Wd) (S : Sh) (H : Hp) : Prop where
  fro : ∀ a o, W.T a = some o → Stands H a o
  len : W.m.length = S.length
  sh : ∀ (i : Nat) (ds : List D), S[i]? = some ds → ∃ a vs, W.m[i]? = some a ∧ H a = some (.lst vs) ∧ Reps W ds vs
  nod : W.m.Nodup
  apart : ∀ a, a ∈ W.m → W.T a = none
  sa : ∀ a vs, W.sa = some (a, vs) → SaOk K H a vs

/-- a step from H to H': what stood stands, but the shared ones -/
structure Stp (W W' : Wd) (H H' : Hp) : Prop where
  le : Le W W'
  keep : ∀ b o, H b = some o → b ∉ W.m → H' b = some o
  new : ∀ b, b ∈ W'.m → b ∈ W.m ∨ H b = none
  ex : ∀ b o, H b = some o → ∃ o', H' b = some o'
  newT : ∀ b o, W'.T b = some o → W.T b = some o ∨ H b = none
theorem Stp.refl (W : Wd) (H : Hp) : Stp W W H H := ⟨.refl _, fun _ _ h _ => h, fun _ h => .inl h, fun _ o h => ⟨o, h⟩, fun _ _ h => .inl h⟩
theorem Stp.trans {W1 W2 W3 : Wd} {H1 H2 H3 : Hp} (a : Stp W1 W2 H1 H2) (b : Stp W2 W3 H2 H3) : Stp W1 W3 H1 H3 := by
  refine ⟨a.le.trans b.le, fun x o h n => ?_, fun x h => ?_, fun x o h => ?_, fun x o h => ?_⟩
  · refine b.keep x o (a.keep x o h n) fun q => ?_
    rcases a.new x q with z | z
    · exact n z
    · rw [h] at z; cases z
  · rcases b.new x h with z | z
    · exact a.new x z
    · cases q : H1 x with
      | none => exact .inr rfl
      | some o =>
        obtain ⟨o', e⟩ := a.ex x o q
        rw [e] at z; cases z
  · obtain ⟨o', e⟩ := a.ex x o h
    exact b.ex x o' e
  · rcases b.newT x o h with z | z
    · exact a.newT x o z
    · cases q : H1 x with
      | none => exact .inr rfl
      | some o =>
        obtain ⟨o', e⟩ := a.ex x o q
        rw [e] at z; cases z

/-- a new frozen object -/
theorem Base.laid {K : PySem.W.Frag} {W : Wd} {S : Sh} {H : Hp} {p : Addr} {o : HO} (B : Base K W S H) (hp : H p = none) (ht : ∀ x u, o ≠ .frz x u) :
    ∃ W', Stp W W' H (upd H p o) ∧ Base K W' S (upd H p o) ∧ W'.T p = some o ∧ W'.m = W.m := by
  have tn : W.T p = none := by
    cases q : W.T p with
    | none => rfl
    | some u =>
      rcases B.fro p u q with z | ⟨_, x, z⟩ <;> (rw [hp] at z; cases z)
  have nm : p ∉ W.m := fun h => by
    obtain ⟨i, hi⟩ := List.getElem?_of_mem h
    have hl : i < S.length := by
      rw [← B.len]
      exact (List.getElem?_eq_some_iff.mp hi).1
    obtain ⟨a, vs, h1, h2, _⟩ := B.sh i S[i] (List.getElem?_eq_getElem hl)
    rw [hi] at h1; cases h1
    rw [hp] at h2; cases h2
  have le : Le W { W with T := fun b => if b = p then some o else W.T b } := ⟨fun _ _ h => h, fun a u h => by
    show (if a = p then some o else W.T a) = some u
    rw [if_neg (fun z => by rw [z, tn] at h; cases h)]
    exact h, rfl⟩
  refine ⟨{ W with T := fun b => if b = p then some o else W.T b }, ⟨le, fun b u h n => ?_, fun b h => .inl h, fun b u h => ?_, fun b u h => ?_⟩, ⟨fun a u h => ?_, B.len, fun i ds h => ?_, B.nod, fun a h => ?_, fun a vs h => ?_⟩, if_pos rfl, rfl⟩
  · rw [upd_ne (ne_of_none h hp)]
    exact h
  · by_cases e : b = p
    · exact ⟨o, by rw [e]; exact upd_same⟩
    · exact ⟨u, by rw [upd_ne e]; exact h⟩
  · have h' : (if b = p then some o else W.T b) = some u := h
    by_cases e : b = p
    · exact .inr (by rw [e]; exact hp)
    · rw [if_neg e] at h'
      exact .inl h'
  · have h' : (if a = p then some o else W.T a) = some u := h
    by_cases e : a = p
    · rw [if_pos e] at h'
      rw [e]
      exact .inl (upd_same.trans h')
    · rw [if_neg e] at h'
      rcases B.fro a u h' with z | ⟨y, x, z⟩
      · exact .inl (by rw [upd_ne e]; exact z)
      · exact .inr ⟨y, x, by rw [upd_ne e]; exact z⟩
  · obtain ⟨a, vs, h1, h2, h3⟩ := B.sh i ds h
    exact ⟨a, vs, h1, by rw [upd_ne (ne_of_none h2 hp)]; exact h2, Reps.mono le ds h3⟩
  · show (if a = p then some o else W.T a) = none
    rw [if_neg (fun z => nm (by rw [← z]; exact h))]
    exact B.apart a h
  · have h1 := B.sa a vs h
    rcases h1 with ⟨x, z⟩ | z
    · exact .inl ⟨x, by rw [upd_ne (ne_of_none z hp)]; exact z⟩
    · exact .inr z

theorem Base.tup {K : PySem.W.Frag} {W : Wd} {S : Sh} {H : Hp} (B : Base K W S H) {a : Addr} {vs : List V} (h : W.T a = some (.tup vs)) : H a = some (.tup vs) := by
  rcases B.fro a _ h with z | ⟨z, _⟩
  · exact z
  · cases z
theorem Base.lst {K : PySem.W.Frag} {W : Wd} {S : Sh} {H : Hp} (B : Base K W S H) {a : Addr} {vs : List V} (h : W.T a = some (.lst vs)) : H a = some (.lst vs) := by
  rcases B.fro a _ h with z | ⟨z, _⟩
  · exact z
  · cases z
/-- what is a list or a tuple -/
def seqD : D → Option (List D)
  | .lst ds => some ds
  | .rol ds => some ds
  | .tup ds => some ds
  | _ => none
theorem Base.seq {K : PySem.W.Frag} {W : Wd} {S : Sh} {H : Hp} (B : Base K W S H) {d : D} {v : V} {ds : List D} (r : Rep W d v) (e : seqD d = some ds) : ∃ a vs, v = .ref a ∧ (SqL K H a vs ∨ SqT K H a vs) ∧ Reps W ds vs := by
  cases d with
  | lst xs =>
    cases e
    obtain ⟨a, vs, h1, h2, h3⟩ := r
    exact ⟨a, vs, h1, .inl (SqL.of (B.lst h2)), h3⟩
  | rol xs =>
    cases e
    obtain ⟨a, vs, h1, h2, h3⟩ := r
    exact ⟨a, vs, h1, .inl (B.sa a vs h2).seq, h3⟩
  | tup xs =>
    cases e
    obtain ⟨a, vs, h1, h2, h3⟩ := r
    exact ⟨a, vs, h1, .inr (SqT.of (B.tup h2)), h3⟩
  | _ => cases e

/-- the environment -/
abbrev Env' := List (Option D)
def EnvR (W : Wd) (ρ : Env') (σ : St) : Prop := ρ.length = σ.length ∧ ∀ (i : Nat) (d : D), ρ[i]? = some (some d) → ∃ v, σ[i]? = some (some v) ∧ Rep W d v
theorem EnvR.mono {W W' : Wd} {ρ : Env'} {σ : St} (l : Le W W') (h : EnvR W ρ σ) : EnvR W' ρ σ := ⟨h.1, fun i d e => let ⟨v, a, b⟩ := h.2 i d e; ⟨v, a, b.mono l⟩⟩

structure Rel (K : PySem.W.Frag) (W : Wd) (ρ : Env') (S : Sh) (σ : St) (H : Hp) : Prop where
  base : Base K W S H
  env : EnvR W ρ σ

abbrev DE := Env' → Sh → Option (D × Sh)
abbrev DT := Env' → Sh → Option (Bool × Sh)
abbrev DA := Env' → Sh → Option (List D × Sh)

def liftE (K : PySem.W.Frag) (d : DE) : TE := fun σ H Q => ∃ W ρ S r S', Rel K W ρ S σ H ∧ d ρ S = some (r, S') ∧ ∀ W' v H', Stp W W' H H' → Rel K W' ρ S' σ H' → Rep W' r v → Q v H'
def liftT (K : PySem.W.Frag) (d : DT) : TT := fun σ H Q => ∃ W ρ S r S', Rel K W ρ S σ H ∧ d ρ S = some (r, S') ∧ ∀ W' H', Stp W W' H H' → Rel K W' ρ S' σ H' → Q r H'
def liftA (K : PySem.W.Frag) (d : DA) : TA := fun σ H Q => ∃ W ρ S r S', Rel K W ρ S σ H ∧ d ρ S = some (r, S') ∧ ∀ W' vs H', Stp W W' H H' → Rel K W' ρ S' σ H' → Reps W' r vs → Q vs H'

abbrev PE' (X : Cx) (e : Expr) (d : DE) : Prop := PE X e (liftE X.K d)
abbrev PT' (X : Cx) (e : Expr) (d : DT) : Prop := PT X e (liftT X.K d)
abbrev PA' (X : Cx) (es : List Expr) (d : DA) : Prop := PA X es (liftA X.K d)

theorem PE.imp {X : Cx} {e : Expr} {t t' : TE} (h : PE X e t) (hi : ∀ σ H Q, t' σ H Q → t σ H Q) : PE X e t' := ⟨fun pins s σ H Q I hw => h.run pins s σ H Q I (hi _ _ _ hw)⟩
theorem PT.imp {X : Cx} {e : Expr} {t t' : TT} (h : PT X e t) (hi : ∀ σ H Q, t' σ H Q → t σ H Q) : PT X e t' := ⟨fun pins s σ H Q I hw => h.run pins s σ H Q I (hi _ _ _ hw)⟩
theorem PA.imp {X : Cx} {e : List Expr} {t t' : TA} (h : PA X e t) (hi : ∀ σ H Q, t' σ H Q → t σ H Q) : PA X e t' := ⟨fun pos pins s σ H Q I hw => h.run pos pins s σ H Q I (hi _ _ _ hw)⟩

/-! ### names, constants -/
def dV (i : Nat) : DE := fun ρ S => match ρ[i]? with | some (some d) => some (d, S) | _ => none
def dC (c : D) : DE := fun _ S => some (c, S)
section
variable {X : Cx} {a b c e : Expr} {es : List Expr} {da db dc : DE} {dt : DT} {dl : DA} {pos : Pos}
theorem dpv (i : Nat) {x : Str} {pos : Pos} (hN : X.N[i]? = some x := by rfl) (hv : Vis X.env.scope x := by first | exact Or.inl rfl | exact Or.inr (Or.inl rfl) | exact Or.inr (Or.inr rfl)) (hd : (x == ("__debug__" : Str)) = false := by decide)
    (hcd : (x == ("__classdict__" : Str)) = false := by decide) : PE' X (.Name x pos) (dV i) := PE.imp (pv i hN hv hd hcd) fun σ H Q => by
  rintro ⟨W, ρ, S, r, S', R, hd, k⟩
  unfold dV at hd
  split at hd
  · rename_i d q
    cases hd
    obtain ⟨v, h1, h2⟩ := R.env.2 i r q
    exact ⟨v, h1, k W v H (.refl _ _) R h2⟩
  · cases hd
theorem liftC {t : TE} {v : V} {d : D} (h : PE X e (tC v)) (hr : ∀ W, Rep W d v) : PE' X e (dC d) := PE.imp h fun σ H Q => by
  rintro ⟨W, ρ, S, r, S', R, hd, k⟩
  cases hd
  exact k W v H (.refl _ _) R (hr W)
theorem dpe_int {i j pos} : PE' X (.Constant (.int i) j pos) (dC (.int i)) := liftC (t := tC (.int i)) pe_int fun _ => rfl
theorem dpe_bl {i j pos} : PE' X (.Constant (.bool i) j pos) (dC (.bl i)) := liftC (t := tC (.bl i)) pe_bl fun _ => rfl
theorem dpe_non {j pos} : PE' X (.Constant .none j pos) (dC .non) := liftC (t := tC .non) pe_non fun _ => rfl
theorem dpe_str {x j pos} : PE' X (.Constant (.str x) j pos) (dC (.str x)) := liftC (t := tC (.str x)) pe_str fun _ => rfl

/-! ### argument lists -/
def dNil : DA := fun _ S => some ([], S)
def dCons (d : DE) (r : DA) : DA := fun ρ S => match d ρ S with
  | some (x, S1) => match r ρ S1 with
    | some (xs, S2) => some (x :: xs, S2)
    | none => none
  | none => none
theorem dpa_nil : PA' X [] dNil := PA.imp pa_nil fun σ H Q => by
  rintro ⟨W, ρ, S, r, S', R, hd, k⟩
  cases hd
  exact k W [] H (.refl _ _) R rfl
theorem dpa_cons (ha : PE' X e da) (hr : PA' X es dl) (hs : starEach (e :: es) X.env = (false, eval e X.env) :: starEach es X.env := by rfl) : PA' X (e :: es) (dCons da dl) := PA.imp (pa_cons ha hr hs) fun σ H Q => by
  rintro ⟨W, ρ, S, r, S', R, hd, k⟩
  unfold dCons at hd
  split at hd
  · rename_i x S1 e1
    split at hd
    · rename_i xs S2 e2
      cases hd
      refine ⟨W, ρ, S, x, S1, R, e1, fun W1 v H1 s1 R1 r1 => ⟨W1, ρ, S1, xs, S', R1, e2, fun W2 vs H2 s2 R2 r2 => ?_⟩⟩
      exact k W2 (v :: vs) H2 (s1.trans s2) R2 ⟨v, vs, rfl, r1.mono s2.le, r2⟩
    · cases hd
  · cases hd
end
end DL


/-! DL1: equality of data at any depth, membership -/
namespace DL
open PySem L2

mutual
/-- what == may be asked of: none, bools, ints, texts, tuples and lists of such, n levels deep at most -/
def eqOk : Nat → D → Bool
  | _, .non => true
  | _, .bl _ => true
  | _, .int _ => true
  | _, .str _ => true
  | n, .tup ds => match n with | 0 => false | n + 1 => eqOks n ds
  | n, .lst ds => match n with | 0 => false | n + 1 => eqOks n ds
  | _, _ => false
def eqOks : Nat → List D → Bool
  | _, [] => true
  | n, d :: ds => eqOk n d && eqOks n ds
end
mutual
/-- Python's == -/
def eqD : D → D → Bool
  | .non, .non => true
  | .bl a, .bl b => a == b
  | .bl a, .int j => (if a then 1 else 0) == j
  | .int i, .bl b => i == (if b then 1 else 0)
  | .int i, .int j => i == j
  | .str x, .str y => x == y
  | .tup xs, .tup ys => eqDs xs ys
  | .lst xs, .lst ys => eqDs xs ys
  | _, _ => false
def eqDs : List D → List D → Bool
  | [], [] => true
  | x :: xs, y :: ys => eqD x y && eqDs xs ys
  | _, _ => false
end
mutual
theorem eqD_refl : ∀ (n : Nat) (d : D), eqOk n d = true → eqD d d = true
  | _, .non, _ => by simp [eqD]
  | _, .bl _, _ => by simp [eqD]
  | _, .int _, _ => by simp [eqD]
  | _, .str _, _ => by simp [eqD]
  | 0, .tup ds, h => by simp [eqOk] at h
  | n + 1, .tup ds, h => by
    rw [eqD]
    exact eqDs_refl n ds (by simpa [eqOk] using h)
  | 0, .lst ds, h => by simp [eqOk] at h
  | n + 1, .lst ds, h => by
    rw [eqD]
    exact eqDs_refl n ds (by simpa [eqOk] using h)
  | _, .rol ds, h => by simp [eqOk] at h
  | _, .ref ds, h => by simp [eqOk] at h
  | _, .set ds, h => by simp [eqOk] at h
  | _, .dct ds es, h => by simp [eqOk] at h
theorem eqDs_refl : ∀ (n : Nat) (ds : List D), eqOks n ds = true → eqDs ds ds = true
  | _, [], _ => by simp [eqDs]
  | n, d :: ds, h => by
    rw [eqOks, Bool.and_eq_true] at h
    rw [eqDs, eqD_refl n d h.1, eqDs_refl n ds h.2]
    rfl
end
theorem eqOks_get {n : Nat} : ∀ {ds : List D} {i : Nat} {d : D}, eqOks n ds = true → ds[i]? = some d → eqOk n d = true
  | [], _, _, _, e => by simp at e
  | x :: xs, 0, d, h, e => by
    rw [eqOks, Bool.and_eq_true] at h
    simp at e; subst e
    exact h.1
  | x :: xs, i + 1, d, h, e => by
    rw [eqOks, Bool.and_eq_true] at h
    exact eqOks_get h.2 (by simpa using e)
mutual
theorem Rep.inj {W : Wd} : ∀ (n : Nat) (d e : D) {v : V}, eqOk n d = true → eqOk n e = true → Rep W d v → Rep W e v → d = e
  | n, .non, e, v, _, oe, h, h' => by
    obtain rfl : v = .non := h
    cases e <;> first | (cases h'; rfl) | (cases h'; done) | (simp [eqOk] at oe; done) | (obtain ⟨a, _, z, _⟩ := h'; cases z)
  | n, .bl b, e, v, _, oe, h, h' => by
    obtain rfl : v = .bl b := h
    cases e <;> first | (cases h'; rfl) | (cases h'; done) | (simp [eqOk] at oe; done) | (obtain ⟨a, _, z, _⟩ := h'; cases z)
  | n, .int b, e, v, _, oe, h, h' => by
    obtain rfl : v = .int b := h
    cases e <;> first | (cases h'; rfl) | (cases h'; done) | (simp [eqOk] at oe; done) | (obtain ⟨a, _, z, _⟩ := h'; cases z)
  | n, .str b, e, v, _, oe, h, h' => by
    obtain rfl : v = .str b := h
    cases e <;> first | (cases h'; rfl) | (cases h'; done) | (simp [eqOk] at oe; done) | (obtain ⟨a, _, z, _⟩ := h'; cases z)
  | n, .set _, e, v, od, oe, h, h' => False.elim h
  | n, .dct _ _, e, v, od, oe, h, h' => False.elim h
  | n, .ref i, e, v, od, oe, h, h' => by simp [eqOk] at od
  | n, .rol i, e, v, od, oe, h, h' => by simp [eqOk] at od
  | 0, .tup ds, e, v, od, oe, h, h' => by simp [eqOk] at od
  | n + 1, .tup ds, e, v, od, oe, h, h' => by
    obtain ⟨a, vs, rfl, t, r⟩ := h
    cases e with
    | tup es =>
      obtain ⟨b, us, z, t', r'⟩ := h'
      cases z
      rw [t] at t'
      cases t'
      rw [Reps.inj n ds es (by simpa [eqOk] using od) (by simpa [eqOk] using oe) r r']
    | lst i => obtain ⟨b, _, z, t', _⟩ := h'; cases z; rw [t] at t'; cases t'
    | _ => first | (cases h'; done) | (simp [eqOk] at oe; done)
  | 0, .lst ds, e, v, od, oe, h, h' => by simp [eqOk] at od
  | n + 1, .lst ds, e, v, od, oe, h, h' => by
    obtain ⟨a, vs, rfl, t, r⟩ := h
    cases e with
    | lst es =>
      obtain ⟨b, us, z, t', r'⟩ := h'
      cases z
      rw [t] at t'
      cases t'
      rw [Reps.inj n ds es (by simpa [eqOk] using od) (by simpa [eqOk] using oe) r r']
    | tup i => obtain ⟨b, _, z, t', _⟩ := h'; cases z; rw [t] at t'; cases t'
    | _ => first | (cases h'; done) | (simp [eqOk] at oe; done)
theorem Reps.inj {W : Wd} : ∀ (n : Nat) (ds es : List D) {vs : List V}, eqOks n ds = true → eqOks n es = true → Reps W ds vs → Reps W es vs → ds = es
  | n, [], es, vs, _, _, h, h' => by
    obtain rfl : vs = [] := h
    cases es with
    | nil => rfl
    | cons e es => obtain ⟨v, r, z, _⟩ := h'; cases z
  | n, d :: ds, es, vs, od, oe, h, h' => by
    obtain ⟨v, r, rfl, h2, h3⟩ := h
    cases es with
    | nil => cases h'
    | cons e es =>
      obtain ⟨v', r', z, h4, h5⟩ := h'
      cases z
      rw [eqOks, Bool.and_eq_true] at od oe
      rw [Rep.inj n d e od.1 oe.1 h2 h4, Reps.inj n ds es od.2 oe.2 h3 h5]
end
theorem eqDs_len : ∀ {ds es : List D}, ds.length ≠ es.length → eqDs ds es = false
  | [], [], h => absurd rfl h
  | [], _ :: _, _ => by simp [eqDs]
  | _ :: _, [], _ => by simp [eqDs]
  | x :: xs, y :: ys, h => by
    rw [eqDs, eqDs_len (fun e => h (by simp [e]))]
    simp
theorem eqDs_all : ∀ (ds es : List D), ds.length = es.length → eqDs ds es = (List.range ds.length).all fun j => eqD (ds.getD j .non) (es.getD j .non)
  | [], [], _ => by simp [eqDs]
  | [], _ :: _, h => by simp at h
  | _ :: _, [], h => by simp at h
  | x :: xs, y :: ys, h => by
    rw [eqDs, eqDs_all xs ys (by simpa using h), List.length_cons, List.range_succ_eq_map, List.all_cons, List.all_map]
    rfl

section
variable {X : Cx} {pins : List (Addr × Obj)} {σ : St} {H : Hp} {s : Shared} {W : Wd} {S : Sh}
theorem Reps.vals {ds : List D} {vs : List V} {us : List Value} {j : Nat} (r : Reps W ds vs) (q : Vals vs us) (h : j < us.length) : ∃ x, Rep W (ds.getD j .non) x ∧ RelV x us[j] := by
  have l1 := r.length
  have l2 := q.length
  have h1 : j < ds.length := by omega
  obtain ⟨x, hx, rx⟩ := r.get (i := j) (d := ds[j]) (List.getElem?_eq_getElem h1)
  obtain ⟨u, hu, ru⟩ := q.get hx
  rw [List.getElem?_eq_getElem h] at hu
  cases hu
  exact ⟨x, by rw [List.getD_eq_getElem?_getD, List.getElem?_eq_getElem h1]; exact rx, ru⟩
theorem range_all {n : Nat} {f g : Nat → Bool} (h : ∀ j, j < n → f j = g j) : (List.range n).all f = (List.range n).all g := by
  rw [Bool.eq_iff_iff, List.all_eq_true, List.all_eq_true]
  exact ⟨fun z j hj => by rw [← h j (List.mem_range.mp hj)]; exact z j hj, fun z j hj => by rw [h j (List.mem_range.mp hj)]; exact z j hj⟩

theorem Base.isTup (I : Inv X pins σ H s) (B : Base X.K W S H) {ds : List D} {x : V} {v : Value} (h : Rep W (.tup ds) x) (r : RelV x v) :
    ∃ a vs us, x = .ref a ∧ v = .ref a ∧ Reps W ds vs ∧ Vals vs us ∧ s.heap.IsTuple a us.toArray ∧ W.T a = some (.tup vs) := by
  obtain ⟨a, vs, rfl, t, q⟩ := h
  obtain rfl : v = Value.ref a := r
  obtain ⟨us, r1, pl, _⟩ := I.tuple (SqT.of (B.tup t))
  exact ⟨a, vs, us, rfl, rfl, q, r1, pl, t⟩
theorem Base.isLst (I : Inv X pins σ H s) (B : Base X.K W S H) {ds : List D} {x : V} {v : Value} (h : Rep W (.lst ds) x) (r : RelV x v) :
    ∃ a vs us, x = .ref a ∧ v = .ref a ∧ Reps W ds vs ∧ Vals vs us ∧ s.heap.IsList a us.toArray ∧ W.T a = some (.lst vs) := by
  obtain ⟨a, vs, rfl, t, q⟩ := h
  obtain rfl : v = Value.ref a := r
  obtain ⟨us, r1, pl, _⟩ := I.list (SqL.of (B.lst t))
  exact ⟨a, vs, us, rfl, rfl, q, r1, pl.isList, t⟩

def isScal : D → Bool
  | .non => true | .bl _ => true | .int _ => true | .str _ => true | _ => false
def sv : D → Tok → Value
  | .bl b, _ => .bool b
  | .int i, t => .int i t
  | .str x, t => .str x t
  | _, _ => .none
theorem sv_of {d : D} {x : V} {v : Value} (h : isScal d = true) (r : Rep W d x) (q : RelV x v) : ∃ t, v = sv d t := by
  cases d with
  | non => obtain rfl : x = .non := r; exact ⟨default, q⟩
  | bl b => obtain rfl : x = .bl b := r; exact ⟨default, q⟩
  | int b => obtain rfl : x = .int b := r; exact q
  | str b => obtain rfl : x = .str b := r; exact q
  | _ => cases h
open SeqAt in
theorem eq_sv (A : Around) (t t' : Tok) : ∀ (d e : D), isScal d = true → isScal e = true → EqAt A s (sv d t) (sv e t') (eqD d e) ∧ RcAt A s (sv d t) (sv e t') (eqD d e)
  | .non, .non, _, _ => ⟨.same _, .none_none⟩
  | .non, .bl b, _, _ => ⟨.none_bool _, .none_bool _⟩
  | .non, .int b, _, _ => ⟨.none_int _ _, .none_int _ _⟩
  | .non, .str b, _, _ => ⟨.none_str _ _, .none_str _ _⟩
  | .bl a, .non, _, _ => ⟨.bool_none _, .bool_none _⟩
  | .bl a, .bl b, _, _ => ⟨.bool_bool _ _, .bool_bool _ _⟩
  | .bl a, .int b, _, _ => ⟨.bool_int _ _ _, .bool_int _ _ _⟩
  | .bl a, .str b, _, _ => ⟨.bool_str _ _ _, .bool_str _ _ _⟩
  | .int a, .non, _, _ => ⟨.int_none _ _, .int_none _ _⟩
  | .int a, .bl b, _, _ => ⟨.int_bool _ _ _, .int_bool _ _ _⟩
  | .int a, .int b, _, _ => ⟨.int_int _ _ _ _, .int_int _ _ _ _⟩
  | .int a, .str b, _, _ => ⟨.int_str _ _ _ _, .int_str _ _ _ _⟩
  | .str a, .non, _, _ => ⟨.str_none _ _, .str_none _ _⟩
  | .str a, .bl b, _, _ => ⟨.str_bool _ _ _, .str_bool _ _ _⟩
  | .str a, .int b, _, _ => ⟨.str_int _ _ _ _, .str_int _ _ _ _⟩
  | .str a, .str b, _, _ => ⟨.str_str _ _ _ _, .str_str _ _ _ _⟩
open SeqAt in
theorem eq_scal (A : Around) (d e : D) (x y : V) (v u : Value) (hd : isScal d = true) (he : isScal e = true) (rd : Rep W d x) (re : Rep W e y) (rx : RelV x v) (ry : RelV y u) : EqAt A s v u (eqD d e) ∧ RcAt A s v u (eqD d e) := by
  obtain ⟨t, rfl⟩ := sv_of hd rd rx
  obtain ⟨t', rfl⟩ := sv_of he re ry
  exact eq_sv A t t' d e hd he
open SeqAt in
theorem tup_scal {A : Around} {l : Addr} {items : Array Value} (hl : s.heap.IsTuple l items) (hu : A.units < cLine) {ds : List D} : ∀ (e : D) (y : V) (u : Value), isScal e = true → Rep W e y → RelV y u →
    (EqAt A s (.ref l) u (eqD (.tup ds) e) ∧ RcAt A s (.ref l) u (eqD (.tup ds) e)) ∧ (EqAt A s u (.ref l) (eqD e (.tup ds)) ∧ RcAt A s u (.ref l) (eqD e (.tup ds)))
  | .non, _, _, _, rfl, rfl => ⟨⟨.tuple_none hl hu, .tuple_none hl hu⟩, ⟨.none_tuple hl hu, .none_tuple hl hu⟩⟩
  | .bl _, _, _, _, rfl, rfl => ⟨⟨.tuple_bool _ hl hu, .tuple_bool _ hl hu⟩, ⟨.bool_tuple _ hl hu, .bool_tuple _ hl hu⟩⟩
  | .int _, _, _, _, rfl, ⟨_, rfl⟩ => ⟨⟨.tuple_int _ _ hl hu, .tuple_int _ _ hl hu⟩, ⟨.int_tuple _ _ hl hu, .int_tuple _ _ hl hu⟩⟩
  | .str _, _, _, _, rfl, ⟨_, rfl⟩ => ⟨⟨.tuple_str _ _ hl hu, .tuple_str _ _ hl hu⟩, ⟨.str_tuple _ _ hl hu, .str_tuple _ _ hl hu⟩⟩
open SeqAt in
theorem lst_scal {A : Around} {l : Addr} {items : Array Value} (hl : s.heap.IsList l items) (hu : A.units < cLine) {ds : List D} : ∀ (e : D) (y : V) (u : Value), isScal e = true → Rep W e y → RelV y u →
    (EqAt A s (.ref l) u (eqD (.lst ds) e) ∧ RcAt A s (.ref l) u (eqD (.lst ds) e)) ∧ (EqAt A s u (.ref l) (eqD e (.lst ds)) ∧ RcAt A s u (.ref l) (eqD e (.lst ds)))
  | .non, _, _, _, rfl, rfl => ⟨⟨.list_none hl hu, .list_none hl hu⟩, ⟨.none_list hl hu, .none_list hl hu⟩⟩
  | .bl _, _, _, _, rfl, rfl => ⟨⟨.list_bool _ hl hu, .list_bool _ hl hu⟩, ⟨.bool_list _ hl hu, .bool_list _ hl hu⟩⟩
  | .int _, _, _, _, rfl, ⟨_, rfl⟩ => ⟨⟨.list_int _ _ hl hu, .list_int _ _ hl hu⟩, ⟨.int_list _ _ hl hu, .int_list _ _ hl hu⟩⟩
  | .str _, _, _, _, rfl, ⟨_, rfl⟩ => ⟨⟨.list_str _ _ hl hu, .list_str _ _ hl hu⟩, ⟨.str_list _ _ hl hu, .str_list _ _ hl hu⟩⟩
theorem in1_units (A : Around) : A.in1.units = A.units + 1 := rfl
open SeqAt in
theorem eq_rc (I : Inv X pins σ H s) (B : Base X.K W S H) : ∀ (n : Nat) (d e : D) (A : Around) (x y : V) (v u : Value), eqOk n d = true → eqOk n e = true → A.units + n < cLine → Rep W d x → Rep W e y → RelV x v → RelV y u → EqAt A s v u (eqD d e) ∧ RcAt A s v u (eqD d e) := by
  intro n
  induction n with
  | zero =>
    intro d e A x y v u od oe hu rd re rx ry
    refine eq_scal A d e x y v u ?_ ?_ rd re rx ry
    · cases d <;> first | rfl | (simp [eqOk] at od; done)
    · cases e <;> first | rfl | (simp [eqOk] at oe; done)
  | succ n ih =>
    intro d e A x y v u od oe hu rd re rx ry
    have hu0 : A.units < cLine := by omega
    have hu1 : A.in1.units + n < cLine := by rw [in1_units]; omega
    by_cases sd : isScal d = true
    · by_cases se : isScal e = true
      · exact eq_scal A d e x y v u sd se rd re rx ry
      · cases e with
        | tup es =>
          obtain ⟨a, vs, us, rfl, rfl, q, r1, pl, t⟩ := B.isTup I re ry
          exact (tup_scal pl hu0 d x v sd rd rx).2
        | lst es =>
          obtain ⟨a, vs, us, rfl, rfl, q, r1, pl, t⟩ := B.isLst I re ry
          exact (lst_scal pl hu0 d x v sd rd rx).2
        | _ => first | exact absurd rfl se | (simp [eqOk] at oe; done)
    · cases d with
      | tup ds =>
        obtain ⟨a, vs, us, rfl, rfl, q, r1, pl, t⟩ := B.isTup I rd rx
        cases e with
        | tup es =>
          obtain ⟨b, vs', us', rfl, rfl, q', r1', pl', t'⟩ := B.isTup I re ry
          have od' : eqOks n ds = true := by simpa [eqOk] using od
          have oe' : eqOks n es = true := by simpa [eqOk] using oe
          have l1 := q.length
          have l2 := q'.length
          have l3 := r1.length
          have l4 := r1'.length
          have rc : RcAt A s (.ref a) (.ref b) (eqD (.tup ds) (.tup es)) := by
            have z := RcAt.tuples (A := A) (e := fun j => eqD (ds.getD j .non) (es.getD j .non)) pl pl' hu0 fun j h1 h2 => by
              have h1' : j < us.length := by simpa using h1
              have h2' : j < us'.length := by simpa using h2
              obtain ⟨x1, p1, p2⟩ := q.vals r1 h1'
              obtain ⟨y1, p3, p4⟩ := q'.vals r1' h2'
              have := (ih _ _ A.in1 x1 y1 us[j] us'[j] (eqOks_get (i := j) od' (by rw [List.getD_eq_getElem?_getD, List.getElem?_eq_getElem (by omega)]; rfl)) (eqOks_get (i := j) oe' (by rw [List.getD_eq_getElem?_getD, List.getElem?_eq_getElem (by omega)]; rfl)) hu1 p1 p3 p2 p4).1
              simpa using this
            have e1 : us.toArray.size = ds.length := by simp; omega
            have e2 : us'.toArray.size = es.length := by simp; omega
            rw [e1, e2] at z
            rw [eqD]
            by_cases hl : ds.length = es.length
            · rw [eqDs_all _ _ hl]
              rw [← hl, Nat.min_self, beq_self_eq_true, Bool.and_true] at z
              exact z
            · rw [eqDs_len hl]
              rw [show (ds.length == es.length) = false by simpa using hl, Bool.and_false] at z
              exact z
          refine ⟨?_, rc⟩
          by_cases hab : a = b
          · subst hab
            rw [Rep.inj (n + 1) _ _ od oe rd re, eqD_refl (n + 1) _ oe]
            exact .same _
          · exact .of_refs hab rc
        | lst es =>
          obtain ⟨b, vs', us', rfl, rfl, q', r1', pl', t'⟩ := B.isLst I re ry
          exact ⟨.tuple_list pl pl' hu0, .tuple_list pl pl' hu0⟩
        | _ => first | exact (tup_scal pl hu0 _ y u rfl re ry).1 | (simp [eqOk] at oe; done)
      | lst ds =>
        obtain ⟨a, vs, us, rfl, rfl, q, r1, pl, t⟩ := B.isLst I rd rx
        cases e with
        | lst es =>
          obtain ⟨b, vs', us', rfl, rfl, q', r1', pl', t'⟩ := B.isLst I re ry
          have od' : eqOks n ds = true := by simpa [eqOk] using od
          have oe' : eqOks n es = true := by simpa [eqOk] using oe
          have l1 := q.length
          have l2 := q'.length
          have l3 := r1.length
          have l4 := r1'.length
          have e1 : us.toArray.size = ds.length := by simp; omega
          have e2 : us'.toArray.size = es.length := by simp; omega
          have rc : RcAt A s (.ref a) (.ref b) (eqD (.lst ds) (.lst es)) := by
            rw [eqD]
            by_cases hl : ds.length = es.length
            · have z := RcAt.lists (A := A) (e := fun j => eqD (ds.getD j .non) (es.getD j .non)) pl pl' (by omega) hu0 fun j h1 h2 => by
                have h1' : j < us.length := by simpa using h1
                have h2' : j < us'.length := by simpa using h2
                obtain ⟨x1, p1, p2⟩ := q.vals r1 h1'
                obtain ⟨y1, p3, p4⟩ := q'.vals r1' h2'
                have := (ih _ _ A.in1 x1 y1 us[j] us'[j] (eqOks_get (i := j) od' (by rw [List.getD_eq_getElem?_getD, List.getElem?_eq_getElem (by omega)]; rfl)) (eqOks_get (i := j) oe' (by rw [List.getD_eq_getElem?_getD, List.getElem?_eq_getElem (by omega)]; rfl)) hu1 p1 p3 p2 p4).1
                simpa using this
              rw [e1] at z
              rw [eqDs_all _ _ hl]
              exact z
            · rw [eqDs_len hl]
              exact RcAt.lists_lengths pl pl' (by rw [e1, e2]; simpa using hl) hu0
          refine ⟨?_, rc⟩
          by_cases hab : a = b
          · subst hab
            rw [Rep.inj (n + 1) _ _ od oe rd re, eqD_refl (n + 1) _ oe]
            exact .same _
          · exact .of_refs hab rc
        | tup es =>
          obtain ⟨b, vs', us', rfl, rfl, q', r1', pl', t'⟩ := B.isTup I re ry
          exact ⟨.list_tuple pl pl' hu0, .list_tuple pl pl' hu0⟩
        | _ => first | exact (lst_scal pl hu0 _ y u rfl re ry).1 | (simp [eqOk] at oe; done)
      | _ => first | exact absurd rfl sd | (simp [eqOk] at od; done)
open SeqAt in
theorem ne_sv (A : Around) (t t' : Tok) : ∀ (d e : D), isScal d = true → isScal e = true → RcNeAt A s (sv d t) (sv e t') (!eqD d e)
  | .non, .non, _, _ => .none_none
  | .non, .bl b, _, _ => .none_bool _
  | .non, .int b, _, _ => .none_int _ _
  | .non, .str b, _, _ => .none_str _ _
  | .bl a, .non, _, _ => .bool_none _
  | .bl a, .bl b, _, _ => .bool_bool _ _
  | .bl a, .int b, _, _ => .bool_int _ _ _
  | .bl a, .str b, _, _ => .bool_str _ _ _
  | .int a, .non, _, _ => .int_none _ _
  | .int a, .bl b, _, _ => .int_bool _ _ _
  | .int a, .int b, _, _ => .int_int _ _ _ _
  | .int a, .str b, _, _ => .int_str _ _ _ _
  | .str a, .non, _, _ => .str_none _ _
  | .str a, .bl b, _, _ => .str_bool _ _ _
  | .str a, .int b, _, _ => .str_int _ _ _ _
  | .str a, .str b, _, _ => .str_str _ _ _ _
open SeqAt in
theorem ne_tup_scal {A : Around} {l : Addr} {items : Array Value} (hl : s.heap.IsTuple l items) (hu : A.units < cLine) {ds : List D} : ∀ (e : D) (y : V) (u : Value), isScal e = true → Rep W e y → RelV y u →
    RcNeAt A s (.ref l) u (!eqD (.tup ds) e) ∧ RcNeAt A s u (.ref l) (!eqD e (.tup ds))
  | .non, _, _, _, rfl, rfl => ⟨.tuple_none hl hu, .none_tuple hl hu⟩
  | .bl _, _, _, _, rfl, rfl => ⟨.tuple_bool _ hl hu, .bool_tuple _ hl hu⟩
  | .int _, _, _, _, rfl, ⟨_, rfl⟩ => ⟨.tuple_int _ _ hl hu, .int_tuple _ _ hl hu⟩
  | .str _, _, _, _, rfl, ⟨_, rfl⟩ => ⟨.tuple_str _ _ hl hu, .str_tuple _ _ hl hu⟩
open SeqAt in
theorem ne_lst_scal {A : Around} {l : Addr} {items : Array Value} (hl : s.heap.IsList l items) (hu : A.units < cLine) {ds : List D} : ∀ (e : D) (y : V) (u : Value), isScal e = true → Rep W e y → RelV y u →
    RcNeAt A s (.ref l) u (!eqD (.lst ds) e) ∧ RcNeAt A s u (.ref l) (!eqD e (.lst ds))
  | .non, _, _, _, rfl, rfl => ⟨.list_none hl hu, .none_list hl hu⟩
  | .bl _, _, _, _, rfl, rfl => ⟨.list_bool _ hl hu, .bool_list _ hl hu⟩
  | .int _, _, _, _, rfl, ⟨_, rfl⟩ => ⟨.list_int _ _ hl hu, .int_list _ _ hl hu⟩
  | .str _, _, _, _, rfl, ⟨_, rfl⟩ => ⟨.list_str _ _ hl hu, .str_list _ _ hl hu⟩
open SeqAt in
theorem ne_rc (I : Inv X pins σ H s) (B : Base X.K W S H) (n : Nat) (d e : D) (A : Around) (x y : V) (v u : Value) (od : eqOk (n + 1) d = true) (oe : eqOk (n + 1) e = true) (hu : A.units + (n + 1) < cLine) (rd : Rep W d x) (re : Rep W e y) (rx : RelV x v) (ry : RelV y u) : RcNeAt A s v u (!eqD d e) := by
  have hu0 : A.units < cLine := by omega
  have hu1 : A.in1.units + n < cLine := by rw [in1_units]; omega
  by_cases sd : isScal d = true
  · by_cases se : isScal e = true
    · obtain ⟨t, rfl⟩ := sv_of sd rd rx
      obtain ⟨t', rfl⟩ := sv_of se re ry
      exact ne_sv A t t' d e sd se
    · cases e with
      | tup es =>
        obtain ⟨a, vs, us, rfl, rfl, q, r1, pl, t⟩ := B.isTup I re ry
        exact (ne_tup_scal pl hu0 d x v sd rd rx).2
      | lst es =>
        obtain ⟨a, vs, us, rfl, rfl, q, r1, pl, t⟩ := B.isLst I re ry
        exact (ne_lst_scal pl hu0 d x v sd rd rx).2
      | _ => first | exact absurd rfl se | (simp [eqOk] at oe; done)
  · cases d with
    | tup ds =>
      obtain ⟨a, vs, us, rfl, rfl, q, r1, pl, t⟩ := B.isTup I rd rx
      cases e with
      | tup es =>
        obtain ⟨b, vs', us', rfl, rfl, q', r1', pl', t'⟩ := B.isTup I re ry
        have od' : eqOks n ds = true := by simpa [eqOk] using od
        have oe' : eqOks n es = true := by simpa [eqOk] using oe
        have l1 := q.length
        have l2 := q'.length
        have l3 := r1.length
        have l4 := r1'.length
        have z := RcNeAt.tuples (A := A) (e := fun j => eqD (ds.getD j .non) (es.getD j .non)) pl pl' hu0 fun j h1 h2 => by
          have h1' : j < us.length := by simpa using h1
          have h2' : j < us'.length := by simpa using h2
          obtain ⟨x1, p1, p2⟩ := q.vals r1 h1'
          obtain ⟨y1, p3, p4⟩ := q'.vals r1' h2'
          have := (eq_rc I B n _ _ A.in1 x1 y1 us[j] us'[j] (eqOks_get (i := j) od' (by rw [List.getD_eq_getElem?_getD, List.getElem?_eq_getElem (by omega)]; rfl)) (eqOks_get (i := j) oe' (by rw [List.getD_eq_getElem?_getD, List.getElem?_eq_getElem (by omega)]; rfl)) hu1 p1 p3 p2 p4).1
          simpa using this
        have e1 : us.toArray.size = ds.length := by simp; omega
        have e2 : us'.toArray.size = es.length := by simp; omega
        rw [e1, e2] at z
        rw [eqD]
        by_cases hl : ds.length = es.length
        · rw [eqDs_all _ _ hl]
          rw [← hl, Nat.min_self, beq_self_eq_true, Bool.and_true] at z
          exact z
        · rw [eqDs_len hl]
          rw [show (ds.length == es.length) = false by simpa using hl, Bool.and_false] at z
          exact z
      | lst es =>
        obtain ⟨b, vs', us', rfl, rfl, q', r1', pl', t'⟩ := B.isLst I re ry
        exact .tuple_list pl pl' hu0
      | _ => first | exact (ne_tup_scal pl hu0 _ y u rfl re ry).1 | (simp [eqOk] at oe; done)
    | lst ds =>
      obtain ⟨a, vs, us, rfl, rfl, q, r1, pl, t⟩ := B.isLst I rd rx
      cases e with
      | lst es =>
        obtain ⟨b, vs', us', rfl, rfl, q', r1', pl', t'⟩ := B.isLst I re ry
        have od' : eqOks n ds = true := by simpa [eqOk] using od
        have oe' : eqOks n es = true := by simpa [eqOk] using oe
        have l1 := q.length
        have l2 := q'.length
        have l3 := r1.length
        have l4 := r1'.length
        have e1 : us.toArray.size = ds.length := by simp; omega
        have e2 : us'.toArray.size = es.length := by simp; omega
        rw [eqD]
        by_cases hl : ds.length = es.length
        · have z := RcNeAt.lists (A := A) (e := fun j => eqD (ds.getD j .non) (es.getD j .non)) pl pl' (by omega) hu0 fun j h1 h2 => by
            have h1' : j < us.length := by simpa using h1
            have h2' : j < us'.length := by simpa using h2
            obtain ⟨x1, p1, p2⟩ := q.vals r1 h1'
            obtain ⟨y1, p3, p4⟩ := q'.vals r1' h2'
            have := (eq_rc I B n _ _ A.in1 x1 y1 us[j] us'[j] (eqOks_get (i := j) od' (by rw [List.getD_eq_getElem?_getD, List.getElem?_eq_getElem (by omega)]; rfl)) (eqOks_get (i := j) oe' (by rw [List.getD_eq_getElem?_getD, List.getElem?_eq_getElem (by omega)]; rfl)) hu1 p1 p3 p2 p4).1
            simpa using this
          rw [e1] at z
          rw [eqDs_all _ _ hl]
          exact z
        · rw [eqDs_len hl]
          exact RcNeAt.lists_lengths pl pl' (by rw [e1, e2]; simpa using hl) hu0
      | tup es =>
        obtain ⟨b, vs', us', rfl, rfl, q', r1', pl', t'⟩ := B.isTup I re ry
        exact .list_tuple pl pl' hu0
      | _ => first | exact (ne_lst_scal pl hu0 _ y u rfl re ry).1 | (simp [eqOk] at oe; done)
    | _ => first | exact absurd rfl sd | (simp [eqOk] at od; done)
end
end DL


/-! DL2: operators over data -/
namespace DL
open PySem L2 PyProof.Rows

def rD (K : PySem.W.Frag) (g : D → D → Option D) : R2 := fun x y H Q => ∃ W S dx dy z, Base K W S H ∧ Rep W dx x ∧ Rep W dy y ∧ g dx dy = some z ∧ ∀ W' w H', Stp W W' H H' → Base K W' S H' → Rep W' z w → Q w H'
def rU1 (K : PySem.W.Frag) (g : D → Option D) : V → Hp → VK → Prop := fun x H Q => ∃ W S dx z, Base K W S H ∧ Rep W dx x ∧ g dx = some z ∧ ∀ W' w H', Stp W W' H H' → Base K W' S H' → Rep W' z w → Q w H'
def rDc (K : PySem.W.Frag) (g : List D → Option D) : List V → Hp → VK → Prop := fun xs H Q => ∃ W S ds z, Base K W S H ∧ Reps W ds xs ∧ g ds = some z ∧ ∀ W' w H', Stp W W' H H' → Base K W' S H' → Rep W' z w → Q w H'

/-! ### the readings, lifted -/
def d2 (g : D → D → Option D) (da db : DE) : DE := fun ρ S => (da ρ S).bind fun p => (db ρ p.2).bind fun q => (g p.1 q.1).map fun z => (z, q.2)
def d1 (g : D → Option D) (da : DE) : DE := fun ρ S => (da ρ S).bind fun p => (g p.1).map fun z => (z, p.2)
def dCall (g : List D → Option D) (da : DA) : DE := fun ρ S => (da ρ S).bind fun p => (g p.1).map fun z => (z, p.2)
section
variable {X : Cx} {a b c e : Expr} {es : List Expr} {da db dc : DE} {dt dt' : DT} {dl : DA} {pos : Pos}
theorem bindS {α β : Type} {o : Option α} {f : α → Option β} {z : β} (h : o.bind f = some z) : ∃ x, o = some x ∧ f x = some z := Option.bind_eq_some_iff.mp h
theorem mapS {α β : Type} {o : Option α} {f : α → β} {z : β} (h : o.map f = some z) : ∃ x, o = some x ∧ f x = z := Option.map_eq_some_iff.mp h
theorem lift2 {g : D → D → Option D} (h : ∀ {ta tb : TE}, PE X a ta → PE X b tb → PE X e (tOp (rD X.K g) ta tb)) (ha : PE' X a da) (hb : PE' X b db) : PE' X e (d2 g da db) := PE.imp (h ha hb) fun σ H Q => by
  rintro ⟨W, ρ, S, r, S', R, hd, k⟩
  obtain ⟨⟨x, S1⟩, e1, hd⟩ := bindS hd
  obtain ⟨⟨y, S2⟩, e2, hd⟩ := bindS hd
  obtain ⟨z, e3, hd⟩ := mapS hd
  cases hd
  refine ⟨W, ρ, S, x, S1, R, e1, fun W1 v H1 s1 R1 r1 => ⟨W1, ρ, S1, y, S2, R1, e2, fun W2 u H2 s2 R2 r2 => ?_⟩⟩
  exact ⟨W2, S2, x, y, _, R2.base, r1.mono s2.le, r2, e3, fun W3 w H3 s3 B3 r3 => k W3 w H3 ((s1.trans s2).trans s3) ⟨B3, R2.env.mono s3.le⟩ r3⟩
theorem lift1 {g : D → Option D} (h : ∀ {ta : TE}, PE X a ta → PE X e (tUn (rU1 X.K g) ta)) (ha : PE' X a da) : PE' X e (d1 g da) := PE.imp (h ha) fun σ H Q => by
  rintro ⟨W, ρ, S, r, S', R, hd, k⟩
  obtain ⟨⟨x, S1⟩, e1, hd⟩ := bindS hd
  obtain ⟨z, e3, hd⟩ := mapS hd
  cases hd
  refine ⟨W, ρ, S, x, S1, R, e1, fun W1 v H1 s1 R1 r1 => ?_⟩
  exact ⟨W1, S1, x, _, R1.base, r1, e3, fun W3 w H3 s3 B3 r3 => k W3 w H3 (s1.trans s3) ⟨B3, R1.env.mono s3.le⟩ r3⟩
theorem liftCall {g : List D → Option D} (h : ∀ {t : TA}, PA X es t → PE X e (tCB (rDc X.K g) t)) (ha : PA' X es dl) : PE' X e (dCall g dl) := PE.imp (h ha) fun σ H Q => by
  rintro ⟨W, ρ, S, r, S', R, hd, k⟩
  obtain ⟨⟨x, S1⟩, e1, hd⟩ := bindS hd
  obtain ⟨z, e3, hd⟩ := mapS hd
  cases hd
  refine ⟨W, ρ, S, x, S1, R, e1, fun W1 v H1 s1 R1 r1 => ?_⟩
  exact ⟨W1, S1, x, _, R1.base, r1, e3, fun W3 w H3 s3 B3 r3 => k W3 w H3 (s1.trans s3) ⟨B3, R1.env.mono s3.le⟩ r3⟩
end

/-! ### arithmetic -/
def mulOk (i j : Int) : Bool := decide (i.natAbs.log2 + j.natAbs.log2 < 67108864)
theorem mulOk_ok {i j : Int} (h : mulOk i j = true) : IntMulOk i j := by
  have b : ∀ x : Int, Builtin.Int.intBits x ≤ x.natAbs.log2 + 1 := fun x => by
    unfold Builtin.Int.intBits
    split <;> omega
  have h1 := b i
  have h2 := b j
  have h3 : i.natAbs.log2 + j.natAbs.log2 < 67108864 := of_decide_eq_true h
  have e : bitsLine = 134217728 := by decide
  unfold IntMulOk
  intro z
  rw [Bool.and_eq_true] at z
  have z2 := z.2
  unfold Builtin.Int.intTooBig at z2
  have z3 := of_decide_eq_true z2
  rw [e] at z3
  omega
def addD : D → D → Option D
  | .int i, .int j => some (.int (i + j))
  | .str x, .str y => if x.length + y.length ≤ sizeLine then some (.str (x ++ y)) else none
  | .lst x, .lst y => if x.length + y.length ≤ sizeLine then some (.lst (x ++ y)) else none
  | .tup x, .tup y => if x.length + y.length ≤ sizeLine then some (.tup (x ++ y)) else none
  | _, _ => none
def subD : D → D → Option D
  | .int i, .int j => some (.int (i - j))
  | _, _ => none
def mulD : D → D → Option D
  | .int i, .int j => if mulOk i j then some (.int (i * j)) else none
  | _, _ => none
def fdivD : D → D → Option D
  | .int i, .int j => if j ≠ 0 ∧ j.natAbs.log2 < 9000 then some (.int (i.fdiv j)) else none
  | _, _ => none
def modD : D → D → Option D
  | .int i, .int j => if j ≠ 0 then some (.int (i.fmod j)) else none
  | _, _ => none
def powD : D → D → Option D
  | .int i, .int j => if 0 ≤ j ∧ j ≤ 1000000 ∧ i.natAbs < 2 ^ 64 then some (.int (i ^ j.toNat)) else none
  | _, _ => none
def shlD : D → D → Option D
  | .int i, .int j => if 0 ≤ j ∧ j ≤ 1000000 ∧ i.natAbs < 2 ^ 64 then some (.int (i * 2 ^ j.toNat)) else none
  | _, _ => none
def bandD : D → D → Option D
  | .int i, .int j => some (.int (Builtin.bitAnd i j))
  | _, _ => none
section
variable {X : Cx} {a b c e : Expr} {es : List Expr} {da db dc : DE} {dt dt' : DT} {dl : DA} {pos : Pos}
/-- an operator on two ints -/
theorem opInt {f : Value → Value → Sem Value} {C : Int → Int → Prop} {g : Int → Int → V} {gd : D → D → Option D} (ho : OpR X f (rI C g)) (hg : ∀ x y z, gd x y = some z → ∃ i j, x = .int i ∧ y = .int j ∧ C i j ∧ (∀ W, Rep W z (g i j))) : OpR X f (rD X.K gd) := by
  intro pins s σ H x y v u Q I rx ry ⟨W, S, dx, dy, z, B, r1, r2, hd, k⟩
  obtain ⟨i, j, rfl, rfl, hc, hr⟩ := hg _ _ _ hd
  obtain rfl : x = .int i := r1
  obtain rfl : y = .int j := r2
  exact ho pins s σ H _ _ v u Q I rx ry ⟨i, j, rfl, rfl, hc, k W _ H (.refl _ _) B (hr W)⟩
theorem opInt0 {f : Value → Value → Sem Value} {g : Int → Int → V} {gd : D → D → Option D} (ho : OpR X f (rI0 g)) (hg : ∀ x y z, gd x y = some z → ∃ i j, x = .int i ∧ y = .int j ∧ (∀ W, Rep W z (g i j))) : OpR X f (rD X.K gd) := by
  intro pins s σ H x y v u Q I rx ry ⟨W, S, dx, dy, z, B, r1, r2, hd, k⟩
  obtain ⟨i, j, rfl, rfl, hr⟩ := hg _ _ _ hd
  obtain rfl : x = .int i := r1
  obtain rfl : y = .int j := r2
  exact ho pins s σ H _ _ v u Q I rx ry ⟨i, j, rfl, rfl, k W _ H (.refl _ _) B (hr W)⟩
theorem od_sub : OpR X (binaryOp .Sub) (rD X.K subD) := opInt0 op_sub fun x y z h => by
  cases x <;> cases y <;> simp [subD] at h
  subst h
  exact ⟨_, _, rfl, rfl, fun _ => rfl⟩
theorem od_mul : OpR X (binaryOp .Mult) (rD X.K mulD) := opInt (C := fun i j => mulOk i j = true) (g := fun i j => .int (i * j)) (opI fun _ _ _ _ _ _ _ hc q => mul_int q (mulOk_ok hc)) fun x y z h => by
  cases x <;> cases y <;> simp [mulD] at h
  obtain ⟨h1, rfl⟩ := h
  exact ⟨_, _, rfl, rfl, h1, fun _ => rfl⟩
theorem od_fdiv : OpR X (binaryOp .FloorDiv) (rD X.K fdivD) := opInt (C := fun _ j => j ≠ 0 ∧ j.natAbs.log2 < 9000) (g := fun i j => .int (i.fdiv j)) (opI fun _ _ _ _ _ _ _ hc q => floordiv_int hc.1 q (.inl (PyProof.noPylong_of_log2 hc.2))) fun x y z h => by
  cases x <;> cases y <;> simp only [fdivD, Option.ite_none_right_eq_some, reduceCtorEq] at h
  obtain ⟨h1, h2⟩ := h
  cases h2
  exact ⟨_, _, rfl, rfl, h1, fun _ => rfl⟩
theorem od_mod : OpR X (binaryOp .Mod) (rD X.K modD) := opInt op_modN fun x y z h => by
  cases x <;> cases y <;> simp only [modD, Option.ite_none_right_eq_some, reduceCtorEq] at h
  obtain ⟨h1, h2⟩ := h
  cases h2
  exact ⟨_, _, rfl, rfl, h1, fun _ => rfl⟩
theorem od_pow : OpR X (binaryOp .Pow) (rD X.K powD) := opInt op_pow fun x y z h => by
  cases x <;> cases y <;> simp only [powD, Option.ite_none_right_eq_some, reduceCtorEq] at h
  obtain ⟨h1, h2⟩ := h
  cases h2
  exact ⟨_, _, rfl, rfl, h1, fun _ => rfl⟩
theorem od_shl : OpR X (binaryOp .LShift) (rD X.K shlD) := opInt op_shl fun x y z h => by
  cases x <;> cases y <;> simp only [shlD, Option.ite_none_right_eq_some, reduceCtorEq] at h
  obtain ⟨h1, h2⟩ := h
  cases h2
  exact ⟨_, _, rfl, rfl, h1, fun _ => rfl⟩
theorem od_band : OpR X (binaryOp .BitAnd) (rD X.K bandD) := opInt0 op_and fun x y z h => by
  cases x <;> cases y <;> simp [bandD] at h
  subst h
  exact ⟨_, _, rfl, rfl, fun _ => rfl⟩
theorem od_add : OpR X (binaryOp .Add) (rD X.K addD) := by
  intro pins s σ H x y v u Q I rx ry ⟨W, S, dx, dy, z, B, r1, r2, hd, k⟩
  cases dx with
  | int i =>
    cases dy with
    | int j =>
      cases hd
      cases r1
      cases r2
      exact op_add pins s σ H _ _ v u Q I rx ry ⟨i, j, rfl, rfl, k W _ H (.refl _ _) B rfl⟩
    | _ => cases hd
  | str i =>
    cases dy with
    | str j =>
      simp only [addD, Option.ite_none_right_eq_some] at hd
      obtain ⟨hl, hd⟩ := hd
      cases hd
      cases r1
      cases r2
      exact op_add_str pins s σ H _ _ v u Q I rx ry ⟨i, j, rfl, rfl, hl, k W _ H (.refl _ _) B rfl⟩
    | _ => cases hd
  | lst xs =>
    cases dy with
    | lst ys =>
      simp only [addD, Option.ite_none_right_eq_some] at hd
      obtain ⟨hl, hd⟩ := hd
      cases hd
      obtain ⟨p, vs, rfl, t1, q1⟩ := r1
      obtain ⟨q, us, rfl, t2, q2⟩ := r2
      refine op_cat pins s σ H _ _ v u Q I rx ry ⟨p, q, vs, us, rfl, rfl, B.lst t1, B.lst t2, by rw [q1.length, q2.length]; exact hl, fun n hn => ?_⟩
      obtain ⟨W', s', B', t', _⟩ := B.laid (o := .lst (vs ++ us)) hn (fun _ _ z => nomatch z)
      exact k W' _ _ s' B' ⟨n, _, rfl, t', (q1.append q2).mono s'.le _⟩
    | _ => cases hd
  | tup xs =>
    cases dy with
    | tup ys =>
      simp only [addD, Option.ite_none_right_eq_some] at hd
      obtain ⟨hl, hd⟩ := hd
      cases hd
      obtain ⟨p, vs, rfl, t1, q1⟩ := r1
      obtain ⟨q, us, rfl, t2, q2⟩ := r2
      refine op_catA pins s σ H _ _ v u Q I rx ry ⟨p, q, vs, us, rfl, rfl, SqT.of (B.tup t1), SqT.of (B.tup t2), by rw [q1.length, q2.length]; exact hl, fun z => ?_, fun _ z => ?_, fun _ _ n hn => ?_⟩
      · subst z
        have : xs = [] := by have := q1.length; simpa using this.symm
        subst this
        exact k W _ H (.refl _ _) B ⟨q, us, rfl, t2, q2⟩
      · subst z
        have : ys = [] := by have := q2.length; simpa using this.symm
        subst this
        exact k W _ H (.refl _ _) B ⟨p, vs, rfl, t1, by simpa using q1⟩
      · obtain ⟨W', s', B', t', _⟩ := B.laid (o := .tup (vs ++ us)) hn (fun _ _ z => nomatch z)
        exact k W' _ _ s' B' ⟨n, _, rfl, t', (q1.append q2).mono s'.le _⟩
    | _ => cases hd
  | _ => cases hd
theorem dpe_add (ha : PE' X a da) (hb : PE' X b db) : PE' X (.BinOp a .Add b pos) (d2 addD da db) := lift2 (fun h1 h2 => pe_op od_add h1 h2) ha hb
theorem dpe_sub (ha : PE' X a da) (hb : PE' X b db) : PE' X (.BinOp a .Sub b pos) (d2 subD da db) := lift2 (fun h1 h2 => pe_op od_sub h1 h2) ha hb
theorem dpe_mul (ha : PE' X a da) (hb : PE' X b db) : PE' X (.BinOp a .Mult b pos) (d2 mulD da db) := lift2 (fun h1 h2 => pe_op od_mul h1 h2) ha hb
theorem dpe_fdiv (ha : PE' X a da) (hb : PE' X b db) : PE' X (.BinOp a .FloorDiv b pos) (d2 fdivD da db) := lift2 (fun h1 h2 => pe_op od_fdiv h1 h2) ha hb
theorem dpe_mod (ha : PE' X a da) (hb : PE' X b db) : PE' X (.BinOp a .Mod b pos) (d2 modD da db) := lift2 (fun h1 h2 => pe_op od_mod h1 h2) ha hb
theorem dpe_pow (ha : PE' X a da) (hb : PE' X b db) : PE' X (.BinOp a .Pow b pos) (d2 powD da db) := lift2 (fun h1 h2 => pe_op od_pow h1 h2) ha hb
theorem dpe_shl (ha : PE' X a da) (hb : PE' X b db) : PE' X (.BinOp a .LShift b pos) (d2 shlD da db) := lift2 (fun h1 h2 => pe_op od_shl h1 h2) ha hb
theorem dpe_band (ha : PE' X a da) (hb : PE' X b db) : PE' X (.BinOp a .BitAnd b pos) (d2 bandD da db) := lift2 (fun h1 h2 => pe_op od_band h1 h2) ha hb
def negD : D → Option D
  | .int i => some (.int (-i))
  | _ => none
theorem dpe_neg (ha : PE' X a da) : PE' X (.UnaryOp .USub a pos) (d1 negD da) := lift1 (fun h => pe_un (fun pins s σ H x v Q I rx ⟨W, S, dx, z, B, r1, hd, k⟩ => by
  cases dx with
  | int i =>
    cases hd
    cases r1
    exact un_neg pins s σ H _ v Q I rx ⟨i, rfl, k W _ H (.refl _ _) B rfl⟩
  | _ => cases hd) h) ha
end
end DL


/-! DL3: comparisons, tests, subscripts, calls of built-ins over data -/
namespace DL
open PySem L2 PyProof.Rows

def eqO (x y : D) : Option D := if eqOk 60 x = true ∧ eqOk 60 y = true then some (.bl (eqD x y)) else none
def neO (x y : D) : Option D := if eqOk 60 x = true ∧ eqOk 60 y = true then some (.bl (!eqD x y)) else none
def ltO : D → D → Option D
  | .int i, .int j => some (.bl (decide (i < j)))
  | .str i, .str j => some (.bl (decide (i.cps.toList < j.cps.toList)))
  | _, _ => none
def leO : D → D → Option D
  | .int i, .int j => some (.bl (decide (i ≤ j)))
  | .str i, .str j => some (.bl (!decide (j.cps.toList < i.cps.toList)))
  | _, _ => none
def gtO : D → D → Option D
  | .int i, .int j => some (.bl (decide (j < i)))
  | .str i, .str j => some (.bl (decide (j.cps.toList < i.cps.toList)))
  | _, _ => none
def geO : D → D → Option D
  | .int i, .int j => some (.bl (decide (j ≤ i)))
  | .str i, .str j => some (.bl (!decide (i.cps.toList < j.cps.toList)))
  | _, _ => none
def isNon : D → Bool
  | .non => true
  | _ => false
def isO (x y : D) : Option D := if isNon y then some (.bl (isNon x)) else none
def isnO (x y : D) : Option D := if isNon y then some (.bl (!isNon x)) else none
def strIn (x y : Str) : Bool := match x.cps.toList with
  | [c] => decide (c ∈ y.cps.toList)
  | _ => !(Builtin.Str.occurrences y x 0 y.length 1).isEmpty
def inB (x y : D) : Option Bool := match y with
  | .str t => match x with
    | .str z => some (strIn z t)
    | _ => none
  | y => match seqD y with
    | some ds => if eqOk 60 x = true ∧ eqOks 60 ds = true then some (ds.any fun z => eqD z x) else none
    | none => none
def inO (x y : D) : Option D := (inB x y).map .bl
def ninO (x y : D) : Option D := (inB x y).map fun b => .bl (!b)
section
variable {X : Cx} {a b c e : Expr} {es : List Expr} {da db dc : DE} {dt dt' : DT} {dl : DA} {pos : Pos}
open SeqAt in
theorem od_eq (hu : X.A.units + 64 < cLine) : OpR X (compareOp .Eq) (rD X.K eqO) := by
  intro pins s σ H x y v u Q I rx ry ⟨W, S, dx, dy, z, B, r1, r2, hd, k⟩
  simp only [eqO, Option.ite_none_right_eq_some] at hd
  obtain ⟨⟨h1, h2⟩, hd⟩ := hd
  cases hd
  exact (eq_rc I B 60 dx dy X.A x y v u h1 h2 (by omega) r1 r2 rx ry).2 _ _ _ _ ⟨.bl _, H, I, rfl, k W _ H (.refl _ _) B rfl⟩
open SeqAt in
theorem od_ne (hu : X.A.units + 64 < cLine) : OpR X (compareOp .NotEq) (rD X.K neO) := by
  intro pins s σ H x y v u Q I rx ry ⟨W, S, dx, dy, z, B, r1, r2, hd, k⟩
  simp only [neO, Option.ite_none_right_eq_some] at hd
  obtain ⟨⟨h1, h2⟩, hd⟩ := hd
  cases hd
  exact ne_rc I B 59 dx dy X.A x y v u h1 h2 (by omega) r1 r2 rx ry _ _ _ _ ⟨.bl _, H, I, rfl, k W _ H (.refl _ _) B rfl⟩
theorem od_lt : OpR X (compareOp .Lt) (rD X.K ltO) := by
  intro pins s σ H x y v u Q I rx ry ⟨W, S, dx, dy, z, B, r1, r2, hd, k⟩
  cases dx <;> cases dy <;> simp only [ltO, reduceCtorEq] at hd
  · cases hd; cases r1; cases r2; exact op_lt pins s σ H _ _ v u Q I rx ry ⟨_, _, rfl, rfl, k W _ H (.refl _ _) B rfl⟩
  · cases hd; cases r1; cases r2; exact op_lt_str pins s σ H _ _ v u Q I rx ry ⟨_, _, rfl, rfl, k W _ H (.refl _ _) B rfl⟩
theorem od_le : OpR X (compareOp .LtE) (rD X.K leO) := by
  intro pins s σ H x y v u Q I rx ry ⟨W, S, dx, dy, z, B, r1, r2, hd, k⟩
  cases dx <;> cases dy <;> simp only [leO, reduceCtorEq] at hd
  · cases hd; cases r1; cases r2; exact op_le pins s σ H _ _ v u Q I rx ry ⟨_, _, rfl, rfl, k W _ H (.refl _ _) B rfl⟩
  · cases hd; cases r1; cases r2; exact op_le_str pins s σ H _ _ v u Q I rx ry ⟨_, _, rfl, rfl, k W _ H (.refl _ _) B rfl⟩
theorem od_gt : OpR X (compareOp .Gt) (rD X.K gtO) := by
  intro pins s σ H x y v u Q I rx ry ⟨W, S, dx, dy, z, B, r1, r2, hd, k⟩
  cases dx <;> cases dy <;> simp only [gtO, reduceCtorEq] at hd
  · cases hd; cases r1; cases r2; exact op_gt pins s σ H _ _ v u Q I rx ry ⟨_, _, rfl, rfl, k W _ H (.refl _ _) B rfl⟩
  · cases hd; cases r1; cases r2; exact op_gt_str pins s σ H _ _ v u Q I rx ry ⟨_, _, rfl, rfl, k W _ H (.refl _ _) B rfl⟩
theorem od_ge : OpR X (compareOp .GtE) (rD X.K geO) := by
  intro pins s σ H x y v u Q I rx ry ⟨W, S, dx, dy, z, B, r1, r2, hd, k⟩
  cases dx <;> cases dy <;> simp only [geO, reduceCtorEq] at hd
  · cases hd; cases r1; cases r2; exact op_ge pins s σ H _ _ v u Q I rx ry ⟨_, _, rfl, rfl, k W _ H (.refl _ _) B rfl⟩
  · cases hd; cases r1; cases r2; exact op_ge_str pins s σ H _ _ v u Q I rx ry ⟨_, _, rfl, rfl, k W _ H (.refl _ _) B rfl⟩
theorem isNon_of {W : Wd} {d : D} {x : V} (r : Rep W d x) : decide (x = .non) = isNon d := by
  cases d with
  | non => obtain rfl : x = .non := r; rfl
  | bl b => obtain rfl : x = .bl b := r; rfl
  | int b => obtain rfl : x = .int b := r; rfl
  | str b => obtain rfl : x = .str b := r; rfl
  | ref i => obtain ⟨a, _, rfl⟩ := r; rfl
  | tup i => obtain ⟨a, _, rfl, _⟩ := r; rfl
  | lst i => obtain ⟨a, _, rfl, _⟩ := r; rfl
  | rol i => obtain ⟨a, _, rfl, _⟩ := r; rfl
  | set i => cases r
  | dct i j => cases r
theorem od_is : OpR X (compareOp .Is) (rD X.K isO) := by
  intro pins s σ H x y v u Q I rx ry ⟨W, S, dx, dy, z, B, r1, r2, hd, k⟩
  cases dy <;> simp only [isO, isNon, if_true, Bool.false_eq_true, if_false, reduceCtorEq] at hd
  cases hd
  obtain rfl : y = .non := r2
  exact op_isN pins s σ H _ _ v u Q I rx ry ⟨rfl, by rw [isNon_of r1]; exact k W _ H (.refl _ _) B rfl⟩
theorem od_isn : OpR X (compareOp .IsNot) (rD X.K isnO) := by
  intro pins s σ H x y v u Q I rx ry ⟨W, S, dx, dy, z, B, r1, r2, hd, k⟩
  cases dy <;> simp only [isnO, isNon, if_true, Bool.false_eq_true, if_false, reduceCtorEq] at hd
  cases hd
  obtain rfl : y = .non := r2
  exact op_notN pins s σ H _ _ v u Q I rx ry ⟨rfl, by rw [isNon_of r1]; exact k W _ H (.refl _ _) B rfl⟩

/-- an equality read off the Value alone -/
theorem pick_eq {W : Wd} {ds : List D} {vs : List V} {us : List Value} (n : Nat) (dx : D) (hr : Reps W ds vs) (hv : Vals vs us) (ok : eqOks n ds = true) :
    ∃ f : Value → Bool, (∀ u, u ∈ us → ∃ z x, z ∈ ds ∧ Rep W z x ∧ RelV x u ∧ f u = eqD z dx) ∧ us.any f = ds.any fun z => eqD z dx := by
  classical
  refine ⟨fun u => if h : ∃ z, ∃ x, z ∈ ds ∧ Rep W z x ∧ RelV x u then eqD h.choose dx else false, fun u hu => ?_, ?_⟩
  · obtain ⟨j, hj⟩ := List.getElem?_of_mem hu
    have l1 := hr.length
    have l2 := hv.length
    have hlt := (List.getElem?_eq_some_iff.mp hj).1
    obtain ⟨x, p1, p2⟩ := hr.vals hv hlt
    have e : us[j] = u := by
      have := List.getElem?_eq_getElem hlt
      rw [hj] at this
      exact (Option.some.inj this).symm
    rw [e] at p2
    have h : ∃ z, ∃ x, z ∈ ds ∧ Rep W z x ∧ RelV x u := ⟨_, x, by rw [List.getD_eq_getElem?_getD, List.getElem?_eq_getElem (by omega)]; exact List.getElem_mem _, p1, p2⟩
    refine ⟨h.choose, h.choose_spec.choose, h.choose_spec.choose_spec.1, h.choose_spec.choose_spec.2.1, h.choose_spec.choose_spec.2.2, ?_⟩
    show (if h : ∃ z, ∃ x, z ∈ ds ∧ Rep W z x ∧ RelV x u then eqD h.choose dx else false) = _
    rw [dif_pos h]
  · have key : ∀ (z : D) (u : Value) (x : V), z ∈ ds → Rep W z x → RelV x u → (if h : ∃ z, ∃ x, z ∈ ds ∧ Rep W z x ∧ RelV x u then eqD h.choose dx else false) = eqD z dx := fun z u x hz r1 r2 => by
      have h : ∃ z, ∃ x, z ∈ ds ∧ Rep W z x ∧ RelV x u := ⟨z, x, hz, r1, r2⟩
      rw [dif_pos h]
      obtain ⟨x', hz', r1', r2'⟩ := h.choose_spec
      have okm : ∀ z, z ∈ ds → eqOk n z = true := fun z hz => by
        obtain ⟨j, hj⟩ := List.getElem?_of_mem hz
        exact eqOks_get ok hj
      rw [r2'.inj r2] at r1'
      rw [Rep.inj n _ _ (okm _ hz') (okm _ hz) r1' r1]
    have go : ∀ (es : List D) (ws : List V) (xs : List Value), Reps W es ws → Vals ws xs → (∀ z, z ∈ es → z ∈ ds) →
        (xs.any fun u => if h : ∃ z, ∃ x, z ∈ ds ∧ Rep W z x ∧ RelV x u then eqD h.choose dx else false) = es.any fun z => eqD z dx := by
      intro es
      induction es with
      | nil =>
        intro ws xs h1 h2 _
        obtain rfl : ws = [] := h1
        cases h2
        rfl
      | cons z es ih =>
        intro ws xs h1 h2 hm
        obtain ⟨w, r, rfl, h3, h4⟩ := h1
        cases h2 with
        | cons h5 h6 =>
          rw [List.any_cons, List.any_cons, ih _ _ h4 h6 fun z hz => hm z (List.mem_cons_of_mem _ hz), key z _ _ (hm z List.mem_cons_self) h3 h5]
    exact go ds vs us hr hv fun _ h => h
theorem str_one {x : Str} {c : Nat} (h : x.cps.toList = [c]) : x = ⟨#[c]⟩ := by
  obtain ⟨cps⟩ := x
  have : cps = #[c] := by
    apply Array.toList_inj.mp
    simpa using h
  rw [this]
open SeqAt in
theorem od_inB (hu : X.A.units + 64 < cLine) {pins : List (Addr × Obj)} {s : Shared} {σ : L2.St} {H : Hp} {x y : V} {v u : Value} {Q : VK} {W : Wd} {S : Sh} {dx dy : D} {b : Bool} (I : Inv X pins σ H s) (rx : RelV x v) (ry : RelV y u)
    (B : Base X.K W S H) (r1 : Rep W dx x) (r2 : Rep W dy y) (h : inB dx dy = some b) :
    (Q (.bl b) H → wpAny (model X.prog X.w) X.A (compareOp .In v u) (EP X pins σ Q) X.xe s) ∧ (Q (.bl (!b)) H → wpAny (model X.prog X.w) X.A (compareOp .NotIn v u) (EP X pins σ Q) X.xe s) := by
  by_cases hs : ∃ t, dy = .str t
  · obtain ⟨t, rfl⟩ := hs
    cases dx with
    | str z =>
      simp only [inB, Option.some.injEq] at h
      subst h
      cases r1
      cases r2
      unfold strIn
      split
      · rename_i c hc
        rw [str_one hc] at rx
        exact ⟨fun q => op_in_sign pins s σ H _ _ v u Q I rx ry ⟨_, _, rfl, rfl, q⟩, fun q => op_notIn_sign pins s σ H _ _ v u Q I rx ry ⟨_, _, rfl, rfl, q⟩⟩
      · exact ⟨fun q => op_in_str pins s σ H _ _ v u Q I rx ry ⟨_, _, rfl, rfl, q⟩, fun q => op_notIn_str pins s σ H _ _ v u Q I rx ry ⟨_, _, rfl, rfl, q⟩⟩
    | _ => cases h
  · obtain ⟨ds, hq, h1, h2, rfl⟩ : ∃ ds, seqD dy = some ds ∧ eqOk 60 dx = true ∧ eqOks 60 ds = true ∧ b = ds.any fun z => eqD z dx := by
      cases dy with
      | str t => exact absurd ⟨t, rfl⟩ hs
      | lst ds =>
        simp only [inB, seqD, Option.ite_none_right_eq_some, Option.some.injEq] at h
        exact ⟨ds, rfl, h.1.1, h.1.2, h.2.symm⟩
      | rol ds =>
        simp only [inB, seqD, Option.ite_none_right_eq_some, Option.some.injEq] at h
        exact ⟨ds, rfl, h.1.1, h.1.2, h.2.symm⟩
      | tup ds =>
        simp only [inB, seqD, Option.ite_none_right_eq_some, Option.some.injEq] at h
        exact ⟨ds, rfl, h.1.1, h.1.2, h.2.symm⟩
      | _ => cases h
    obtain ⟨a, vs, rfl, hseq, q⟩ := B.seq r2 hq
    obtain rfl : u = Value.ref a := ry
    have eqs : ∀ us : List Value, Vals vs us → ∃ f : Value → Bool, (∀ w, w ∈ us.toArray → EqAt X.A.in1 s w v (f w)) ∧ us.toArray.any f = ds.any fun z => eqD z dx := fun us hv => by
      obtain ⟨f, f1, f2⟩ := pick_eq 60 dx q hv h2
      refine ⟨f, fun w hw => ?_, by simpa using f2⟩
      obtain ⟨z, xz, m1, m2, m3, m4⟩ := f1 w (by simpa using hw)
      rw [m4]
      obtain ⟨j, hj⟩ := List.getElem?_of_mem m1
      exact (eq_rc I B 60 z dx X.A.in1 xz x w v (eqOks_get h2 hj) h1 (by rw [in1_units]; omega) m2 r1 m3 rx).1
    rcases hseq with hseq | hseq
    · obtain ⟨us, hv, pl, _⟩ := I.list hseq
      obtain ⟨f, f1, f2⟩ := eqs us hv
      exact ⟨fun q => in_listAt f pl.isList f1 ⟨.bl _, H, I, rfl, by rw [f2]; exact q⟩, fun q => notIn_listAt f pl.isList f1 ⟨.bl _, H, I, rfl, by rw [f2]; exact q⟩⟩
    · obtain ⟨us, hv, pl, _⟩ := I.tuple hseq
      obtain ⟨f, f1, f2⟩ := eqs us hv
      exact ⟨fun q => in_tupleAt f pl f1 ⟨.bl _, H, I, rfl, by rw [f2]; exact q⟩, fun q => notIn_tupleAt f pl f1 ⟨.bl _, H, I, rfl, by rw [f2]; exact q⟩⟩
theorem od_in (hu : X.A.units + 64 < cLine) : OpR X (compareOp .In) (rD X.K inO) := by
  intro pins s σ H x y v u Q I rx ry ⟨W, S, dx, dy, z, B, r1, r2, hd, k⟩
  obtain ⟨b, h1, rfl⟩ := mapS hd
  exact (od_inB hu I rx ry B r1 r2 h1).1 (k W _ H (.refl _ _) B rfl)
theorem od_nin (hu : X.A.units + 64 < cLine) : OpR X (compareOp .NotIn) (rD X.K ninO) := by
  intro pins s σ H x y v u Q I rx ry ⟨W, S, dx, dy, z, B, r1, r2, hd, k⟩
  obtain ⟨b, h1, rfl⟩ := mapS hd
  exact (od_inB hu I rx ry B r1 r2 h1).2 (k W _ H (.refl _ _) B rfl)
end
end DL


/-! DL4: tests, displays, subscripts -/
namespace DL
open PySem L2 PyProof.Rows

section
variable {X : Cx} {a b c e : Expr} {es : List Expr} {da db dc : DE} {dt dt' dt2 : DT} {dl : DA} {pos : Pos}
theorem dpe_cmp {op : CmpOp} {g : D → D → Option D} (ho : OpR X (compareOp op) (rD X.K g)) (ha : PE' X a da) (hb : PE' X b db) (hm : behindInMarks op b = false) : PE' X (.Compare a [op] [b] pos) (d2 g da db) := lift2 (fun h1 h2 => pe_cmpR ho h1 h2 hm) ha hb

/-! ### tests -/
def dtE (d : DE) : DT := fun ρ S => (d ρ S).bind fun p => match p.1 with
  | .bl k => some (k, p.2)
  | _ => none
theorem dtE_of {d : DE} {ρ : Env'} {S : Sh} {k : Bool} {S' : Sh} (h : dtE d ρ S = some (k, S')) : d ρ S = some (.bl k, S') := by
  obtain ⟨⟨x, S1⟩, e1, h⟩ := bindS h
  cases x <;> simp only [reduceCtorEq] at h
  cases h
  exact e1
theorem liftTE {t : TE} (h : PT X e (tTest t)) (ht : ∀ σ H Q, liftE X.K da σ H Q → t σ H Q) : PT' X e (dtE da) := PT.imp h fun σ H Q => by
  rintro ⟨W, ρ, S, r, S', R, hd, k⟩
  refine ht σ H _ ⟨W, ρ, S, .bl r, S', R, dtE_of hd, fun W' v H' s' R' r' => ⟨r, r', k W' H' s' R'⟩⟩
theorem dpt_val (ha : PE' X e da) (he : ∀ whole, isTrue e X.env whole = (do let v ← whole; standAt e.pos; holding [v] (truthy v)) := by intro _; rfl) : PT' X e (dtE da) := liftTE (t := liftE X.K da) (PT.imp (pt_val ha he) fun _ _ _ h => h) fun _ _ _ h => h
theorem tOp_of {g : D → D → Option D} {σ : L2.St} {H : Hp} {Q : VK} (h : liftE X.K (d2 g da db) σ H Q) : tOp (rD X.K g) (liftE X.K da) (liftE X.K db) σ H Q := by
  obtain ⟨W, ρ, S, r, S', R, hd, k⟩ := h
  obtain ⟨⟨x, S1⟩, e1, hd⟩ := bindS hd
  obtain ⟨⟨y, S2⟩, e2, hd⟩ := bindS hd
  obtain ⟨z, e3, hd⟩ := mapS hd
  cases hd
  refine ⟨W, ρ, S, x, S1, R, e1, fun W1 v H1 s1 R1 r1 => ⟨W1, ρ, S1, y, S2, R1, e2, fun W2 u H2 s2 R2 r2 => ?_⟩⟩
  exact ⟨W2, S2, x, y, _, R2.base, r1.mono s2.le, r2, e3, fun W3 w H3 s3 B3 r3 => k W3 w H3 ((s1.trans s2).trans s3) ⟨B3, R2.env.mono s3.le⟩ r3⟩
theorem dpt_cmp {op : CmpOp} {g : D → D → Option D} (ho : OpR X (compareOp op) (rD X.K g)) (ha : PE' X a da) (hb : PE' X b db) (hm : behindInMarks op b = false) : PT' X (.Compare a [op] [b] pos) (dtE (d2 g da db)) := liftTE (pt_cmpR ho ha hb hm) fun _ _ _ h => tOp_of h
def dNot (d : DT) : DT := fun ρ S => (d ρ S).map fun p => (!p.1, p.2)
theorem dpt_not (ha : PT' X a dt) : PT' X (.UnaryOp .Not a pos) (dNot dt) := PT.imp (pt_not ha) fun σ H Q => by
  rintro ⟨W, ρ, S, r, S', R, hd, k⟩
  obtain ⟨⟨x, S1⟩, e1, hd⟩ := mapS hd
  cases hd
  exact ⟨W, ρ, S, x, S1, R, e1, fun W' H' s' R' => k W' H' s' R'⟩
def dAnd (d d' : DT) : DT := fun ρ S => (d ρ S).bind fun p => if p.1 then d' ρ p.2 else some (false, p.2)
def dOr (d d' : DT) : DT := fun ρ S => (d ρ S).bind fun p => if p.1 then some (true, p.2) else d' ρ p.2
abbrev PW' (X : Cx) (e : Expr) (d : DT) : Prop := PW X e (liftT X.K d)
theorem PW.imp {t t' : TT} (h : PW X e t) (hi : ∀ σ H Q, t' σ H Q → t σ H Q) : PW X e t' := ⟨fun whole pins s σ H Q I hw => h.run whole pins s σ H Q I (hi _ _ _ hw)⟩
theorem dpw_and1 (ha : PT' X a dt) : PW' X (.BoolOp .And [a] pos) dt := pw_and1 ha
theorem dpw_or1 (ha : PT' X a dt) : PW' X (.BoolOp .Or [a] pos) dt := pw_or1 ha
theorem dpw_and (ha : PT' X a dt) (hb : PW' X (.BoolOp .And (b :: es) pos) dt2) : PW' X (.BoolOp .And (a :: b :: es) pos) (dAnd dt dt2) := PW.imp (pw_and ha hb) fun σ H Q => by
  rintro ⟨W, ρ, S, r, S', R, hd, k⟩
  obtain ⟨⟨x, S1⟩, e1, hd⟩ := bindS hd
  refine ⟨W, ρ, S, x, S1, R, e1, fun W1 H1 s1 R1 => ?_⟩
  cases x with
  | true =>
    rw [if_pos rfl]
    exact ⟨W1, ρ, S1, r, S', R1, by simpa using hd, fun W2 H2 s2 R2 => k W2 H2 (s1.trans s2) R2⟩
  | false =>
    rw [if_neg Bool.false_ne_true]
    simp only [Bool.false_eq_true, if_false] at hd
    cases hd
    exact k W1 H1 s1 R1
theorem dpw_or (ha : PT' X a dt) (hb : PW' X (.BoolOp .Or (b :: es) pos) dt2) : PW' X (.BoolOp .Or (a :: b :: es) pos) (dOr dt dt2) := PW.imp (pw_or ha hb) fun σ H Q => by
  rintro ⟨W, ρ, S, r, S', R, hd, k⟩
  obtain ⟨⟨x, S1⟩, e1, hd⟩ := bindS hd
  refine ⟨W, ρ, S, x, S1, R, e1, fun W1 H1 s1 R1 => ?_⟩
  cases x with
  | true =>
    rw [if_pos rfl]
    simp only [if_true] at hd
    cases hd
    exact k W1 H1 s1 R1
  | false =>
    rw [if_neg Bool.false_ne_true]
    exact ⟨W1, ρ, S1, r, S', R1, by simpa using hd, fun W2 H2 s2 R2 => k W2 H2 (s1.trans s2) R2⟩
theorem dpt_w (h : PW' X e dt) : PT' X e dt := h.pt
/-! ### truth values -/
def dAndV (d d' : DE) : DE := fun ρ S => (d ρ S).bind fun p => match p.1 with
  | .bl k => if k then d' ρ p.2 else some (.bl false, p.2)
  | _ => none
def dOrV (d d' : DE) : DE := fun ρ S => (d ρ S).bind fun p => match p.1 with
  | .bl k => if k then some (.bl true, p.2) else d' ρ p.2
  | _ => none
def notD : D → Option D
  | .bl k => some (.bl (!k))
  | _ => none
theorem dpe_one {op} (h : PE' X a da) : PE' X (.BoolOp op [a] pos) da := pe_one h
theorem dpe_and (ha : PE' X a da) (hb : PE' X (.BoolOp .And (b :: es) pos) db) : PE' X (.BoolOp .And (a :: b :: es) pos) (dAndV da db) := PE.imp (pe_and ha hb) fun σ H Q => by
  rintro ⟨W, ρ, S, r, S', R, hd, k⟩
  obtain ⟨⟨x, S1⟩, e1, hd⟩ := bindS hd
  cases x <;> simp only [reduceCtorEq] at hd
  rename_i x
  refine ⟨W, ρ, S, _, S1, R, e1, fun W1 v H1 s1 R1 r1 => ⟨x, r1, ?_⟩⟩
  cases x with
  | true =>
    rw [if_pos rfl]
    exact ⟨W1, ρ, S1, r, S', R1, by simpa using hd, fun W2 v H2 s2 R2 => k W2 v H2 (s1.trans s2) R2⟩
  | false =>
    rw [if_neg Bool.false_ne_true]
    simp only [Bool.false_eq_true, if_false] at hd
    cases hd
    exact k W1 _ H1 s1 R1 rfl
theorem dpe_or (ha : PE' X a da) (hb : PE' X (.BoolOp .Or (b :: es) pos) db) : PE' X (.BoolOp .Or (a :: b :: es) pos) (dOrV da db) := PE.imp (pe_or ha hb) fun σ H Q => by
  rintro ⟨W, ρ, S, r, S', R, hd, k⟩
  obtain ⟨⟨x, S1⟩, e1, hd⟩ := bindS hd
  cases x <;> simp only [reduceCtorEq] at hd
  rename_i x
  refine ⟨W, ρ, S, _, S1, R, e1, fun W1 v H1 s1 R1 r1 => ⟨x, r1, ?_⟩⟩
  cases x with
  | true =>
    rw [if_pos rfl]
    simp only [if_true] at hd
    cases hd
    exact k W1 _ H1 s1 R1 rfl
  | false =>
    rw [if_neg Bool.false_ne_true]
    exact ⟨W1, ρ, S1, r, S', R1, by simpa using hd, fun W2 v H2 s2 R2 => k W2 v H2 (s1.trans s2) R2⟩
theorem dpe_not (ha : PE' X a da) : PE' X (.UnaryOp .Not a pos) (d1 notD da) := PE.imp (pe_not ha) fun σ H Q => by
  rintro ⟨W, ρ, S, r, S', R, hd, k⟩
  obtain ⟨⟨x, S1⟩, e1, hd⟩ := bindS hd
  obtain ⟨z, e3, hd⟩ := mapS hd
  cases hd
  cases x <;> simp only [notD, reduceCtorEq] at e3
  cases e3
  exact ⟨W, ρ, S, _, S1, R, e1, fun W1 v H1 s1 R1 r1 => ⟨_, r1, k W1 _ H1 s1 R1 rfl⟩⟩
def dIfE (t : DT) (d d' : DE) : DE := fun ρ S => (t ρ S).bind fun p => if p.1 then d ρ p.2 else d' ρ p.2
theorem dpe_if (hc : PT' X c dt) (ha : PE' X a da) (hb : PE' X b db) : PE' X (.IfExp c a b pos) (dIfE dt da db) := PE.imp (pe_ifExp hc ha hb) fun σ H Q => by
  rintro ⟨W, ρ, S, r, S', R, hd, k⟩
  obtain ⟨⟨x, S1⟩, e1, hd⟩ := bindS hd
  refine ⟨W, ρ, S, x, S1, R, e1, fun W1 H1 s1 R1 => ?_⟩
  cases x with
  | true =>
    rw [if_pos rfl]
    exact ⟨W1, ρ, S1, r, S', R1, by simpa using hd, fun W2 v H2 s2 R2 => k W2 v H2 (s1.trans s2) R2⟩
  | false =>
    rw [if_neg Bool.false_ne_true]
    exact ⟨W1, ρ, S1, r, S', R1, by simpa using hd, fun W2 v H2 s2 R2 => k W2 v H2 (s1.trans s2) R2⟩
/-! ### a op b op c -/
def dChain (g g' : D → D → Option D) (da db dc : DE) : DE := fun ρ S => (da ρ S).bind fun p => (db ρ p.2).bind fun q => (g p.1 q.1).bind fun z => match z with
  | .bl k => if k then (dc ρ q.2).bind fun r => (g' q.1 r.1).map fun z => (z, r.2) else some (.bl false, q.2)
  | _ => none
theorem tChain_of {g g' : D → D → Option D} {σ : L2.St} {H : Hp} {Q : VK} (h : liftE X.K (dChain g g' da db dc) σ H Q) : tChain (rD X.K g) (rD X.K g') (liftE X.K da) (liftE X.K db) (liftE X.K dc) σ H Q := by
  obtain ⟨W, ρ, S, r, S', R, hd, k⟩ := h
  obtain ⟨⟨x, S1⟩, e1, hd⟩ := bindS hd
  obtain ⟨⟨y, S2⟩, e2, hd⟩ := bindS hd
  obtain ⟨z, e3, hd⟩ := bindS hd
  cases z <;> simp only [reduceCtorEq] at hd
  rename_i kk
  refine ⟨W, ρ, S, x, S1, R, e1, fun W1 v H1 s1 R1 r1 => ⟨W1, ρ, S1, y, S2, R1, e2, fun W2 u H2 s2 R2 r2 => ?_⟩⟩
  refine ⟨W2, S2, x, y, _, R2.base, r1.mono s2.le, r2, e3, fun W3 w H3 s3 B3 r3 => ⟨kk, r3, ?_⟩⟩
  have R3 : Rel X.K W3 ρ S2 σ H3 := ⟨B3, R2.env.mono s3.le⟩
  have s03 := (s1.trans s2).trans s3
  cases kk with
  | true =>
    rw [if_pos rfl]
    simp only [if_true] at hd
    obtain ⟨⟨x4, S4⟩, e4, hd⟩ := bindS hd
    obtain ⟨z, e5, hd⟩ := mapS hd
    cases hd
    refine ⟨W3, ρ, S2, x4, S4, R3, e4, fun W4 v4 H4 s4 R4 r4 => ?_⟩
    exact ⟨W4, S4, y, x4, _, R4.base, r2.mono (s3.le.trans s4.le), r4, e5, fun W5 w5 H5 s5 B5 r5 => k W5 w5 H5 ((s03.trans s4).trans s5) ⟨B5, R4.env.mono s5.le⟩ r5⟩
  | false =>
    rw [if_neg Bool.false_ne_true]
    simp only [Bool.false_eq_true, if_false] at hd
    cases hd
    exact k W3 _ H3 s03 R3 rfl
theorem dpe_chain {op op' : CmpOp} {g g' : D → D → Option D} (ho : OpR X (compareOp op) (rD X.K g)) (ho' : OpR X (compareOp op') (rD X.K g')) (ha : PE' X a da) (hb : PE' X b db) (hc : PE' X c dc)
    (hm : lastMarks [op, op'] [b, c] = false := by with_unfolding_all rfl) : PE' X (.Compare a [op, op'] [b, c] pos) (dChain g g' da db dc) := PE.imp (pe_chain ho ho' ha hb hc hm) fun _ _ _ h => tChain_of h
theorem dpt_chain {op op' : CmpOp} {g g' : D → D → Option D} (ho : OpR X (compareOp op) (rD X.K g)) (ho' : OpR X (compareOp op') (rD X.K g')) (ha : PE' X a da) (hb : PE' X b db) (hc : PE' X c dc)
    (hm : lastMarks [op, op'] [b, c] = false := by with_unfolding_all rfl) : PT' X (.Compare a [op, op'] [b, c] pos) (dtE (dChain g g' da db dc)) := liftTE (pt_chain ho ho' ha hb hc hm) fun _ _ _ h => tChain_of h
/-! ### displays -/
def tupO (ds : List D) : Option D := if ds.length ≤ sizeLine then some (.tup ds) else none
def lstO (ds : List D) : Option D := if ds.length ≤ sizeLine then some (.lst ds) else none
def dTup (dl : DA) : DE := dCall tupO dl
def dLst (dl : DA) : DE := dCall lstO dl
theorem dpe_tup {x1} (h : PA' X es dl) : PE' X (.Tuple es x1 pos) (dTup dl) := PE.imp (pe_tup h) fun σ H Q => by
  rintro ⟨W, ρ, S, r, S', R, hd, k⟩
  obtain ⟨⟨x, S1⟩, e1, hd⟩ := bindS hd
  obtain ⟨z, e3, hd⟩ := mapS hd
  cases hd
  simp only [tupO, Option.ite_none_right_eq_some] at e3
  obtain ⟨hl, e3⟩ := e3
  cases e3
  refine ⟨W, ρ, S, x, S1, R, e1, fun W1 vs H1 s1 R1 r1 => ⟨by rw [r1.length]; exact hl, fun p hp => ?_⟩⟩
  obtain ⟨W', s', B', t', _⟩ := R1.base.laid (o := .tup vs) hp (fun _ _ z => nomatch z)
  exact k W' _ _ (s1.trans s') ⟨B', R1.env.mono s'.le⟩ ⟨p, vs, rfl, t', r1.mono s'.le⟩
theorem dpe_lst (h : PA' X es dl) : PE' X (.List es pos) (dLst dl) := PE.imp (pe_lst h) fun σ H Q => by
  rintro ⟨W, ρ, S, r, S', R, hd, k⟩
  obtain ⟨⟨x, S1⟩, e1, hd⟩ := bindS hd
  obtain ⟨z, e3, hd⟩ := mapS hd
  cases hd
  simp only [lstO, Option.ite_none_right_eq_some] at e3
  obtain ⟨hl, e3⟩ := e3
  cases e3
  refine ⟨W, ρ, S, x, S1, R, e1, fun W1 vs H1 s1 R1 r1 => ⟨by rw [r1.length]; exact hl, fun p hp => ?_⟩⟩
  obtain ⟨W', s', B', t', _⟩ := R1.base.laid (o := .lst vs) hp (fun _ _ z => nomatch z)
  exact k W' _ _ (s1.trans s') ⟨B', R1.env.mono s'.le⟩ ⟨p, vs, rfl, t', r1.mono s'.le⟩
/-! ### subscripts -/
theorem Reps.atI {W : Wd} {ds : List D} {vs : List V} {i : Int} {d : D} (r : Reps W ds vs) (h : atI ds i = some d) : ∃ v, L2.atI vs i = some v ∧ Rep W d v := by
  unfold L2.atI at h ⊢
  obtain ⟨j, h1, h2⟩ := bindS h
  obtain ⟨v, h3, h4⟩ := r.get h2
  rw [r.length]
  exact ⟨v, by rw [h1]; exact h3, h4⟩
def idxD (x y : D) : Option D := match y with
  | .int i => match x with
    | .str z => if z.length ≤ sizeLine then (atI z.cps.toList i).map fun c => .str ⟨#[c]⟩ else none
    | x => (seqD x).bind fun ds => atI ds i
  | _ => none
theorem ixd : IxR X (rD X.K idxD) := by
  intro value slice pins s σ H x y v u Q I rx ry ⟨W, S, dx, dy, z, B, r1, r2, hd, k⟩ hs
  cases dy <;> simp only [idxD, reduceCtorEq] at hd
  rename_i i
  cases r2
  by_cases hstr : ∃ t, dx = .str t
  · obtain ⟨t, rfl⟩ := hstr
    simp only [Option.ite_none_right_eq_some] at hd
    obtain ⟨h1, h2⟩ := hd
    obtain ⟨c, h3, rfl⟩ := mapS h2
    cases r1
    exact ix_str value slice pins s σ H _ _ v u Q I rx ry ⟨t, i, c, rfl, rfl, h1, h3, k W _ H (.refl _ _) B rfl⟩ hs
  · have hd' : (seqD dx).bind (fun ds => atI ds i) = some z := by
      cases dx with
      | str t => exact absurd ⟨t, rfl⟩ hstr
      | _ => exact hd
    obtain ⟨ds, h1, h2⟩ := bindS hd'
    obtain ⟨a, vs, rfl, h3, h4⟩ := B.seq r1 h1
    obtain ⟨w, h5, h6⟩ := h4.atI h2
    rcases h3 with h3 | h3
    · exact ix_list value slice pins s σ H _ _ v u Q I rx ry ⟨a, vs, i, w, rfl, rfl, h3, h5, k W _ H (.refl _ _) B h6⟩ hs
    · exact ix_tup value slice pins s σ H _ _ v u Q I rx ry ⟨a, vs, i, w, rfl, rfl, h3, h5, k W _ H (.refl _ _) B h6⟩ hs
theorem dpe_ix (ha : PE' X a da) (hb : PE' X b db) (hs : PlainIx b) : PE' X (.Subscript a b pos) (d2 idxD da db) := lift2 (fun h1 h2 => pe_ix ixd h1 h2 hs) ha hb
end
end DL


/-! DL5: slots, own lists, statements -/
namespace DL
open PySem L2 PyProof.Rows

inductive Sl where
  | no | val (d : D) | own (ds : List D)
abbrev Env2 := List Sl

mutual
/-- no list within -/
def pureD : D → Bool
  | .non => true
  | .bl _ => true
  | .int _ => true
  | .str _ => true
  | .ref _ => true
  | .tup ds => pureDs ds
  | .rol ds => pureDs ds
  | _ => false
def pureDs : List D → Bool
  | [] => true
  | d :: ds => pureD d && pureDs ds
end
def pureSh : Sh → Bool
  | [] => true
  | ds :: r => pureDs ds && pureSh r
mutual
theorem Rep.pure {W W' : Wd} (hm : ∀ (i : Nat) a, W.m[i]? = some a → W'.m[i]? = some a) (ht : ∀ a vs, W.T a = some (.tup vs) → W'.T a = some (.tup vs)) (hs : W'.sa = W.sa) : ∀ (d : D) {v : V}, pureD d = true → Rep W d v → Rep W' d v
  | .non, _, _, h => h
  | .bl _, _, _, h => h
  | .int _, _, _, h => h
  | .str _, _, _, h => h
  | .ref i, _, _, h => by
    obtain ⟨a, h1, h2⟩ := h
    exact ⟨a, hm _ _ h1, h2⟩
  | .tup ds, _, p, h => by
    obtain ⟨a, vs, h1, h2, h3⟩ := h
    exact ⟨a, vs, h1, ht _ _ h2, Reps.pure hm ht hs ds (by simpa [pureD] using p) h3⟩
  | .lst ds, _, p, _ => by simp [pureD] at p
  | .rol ds, _, p, h => by
    obtain ⟨a, vs, h1, h2, h3⟩ := h
    exact ⟨a, vs, h1, hs.trans h2, Reps.pure hm ht hs ds (by simpa [pureD] using p) h3⟩
  | .set _, _, _, h => False.elim h
  | .dct _ _, _, _, h => False.elim h
theorem Reps.pure {W W' : Wd} (hm : ∀ (i : Nat) a, W.m[i]? = some a → W'.m[i]? = some a) (ht : ∀ a vs, W.T a = some (.tup vs) → W'.T a = some (.tup vs)) (hs : W'.sa = W.sa) : ∀ (ds : List D) {vs : List V}, pureDs ds = true → Reps W ds vs → Reps W' ds vs
  | [], _, _, h => h
  | d :: ds, _, p, h => by
    obtain ⟨v, r, h1, h2, h3⟩ := h
    rw [pureDs, Bool.and_eq_true] at p
    exact ⟨v, r, h1, Rep.pure hm ht hs d p.1 h2, Reps.pure hm ht hs ds p.2 h3⟩
end
theorem pureSh_get : ∀ {S : Sh} {i : Nat} {ds : List D}, pureSh S = true → S[i]? = some ds → pureDs ds = true
  | [], _, _, _, e => by simp at e
  | x :: xs, 0, _, h, e => by
    rw [pureSh, Bool.and_eq_true] at h
    simp at e; subst e
    exact h.1
  | x :: xs, i + 1, _, h, e => by
    rw [pureSh, Bool.and_eq_true] at h
    exact pureSh_get h.2 (by simpa using e)

/-- own lists as values: those in keep; the others are not seen -/
def fz1 (b : Bool) : Sl → Option D
  | .no => none
  | .val d => some d
  | .own ds => if b then some (.lst ds) else none
def fzE (keep : List Nat) : Nat → Env2 → Env'
  | _, [] => []
  | n, s :: r => fz1 (keep.contains n) s :: fzE keep (n + 1) r
def frz1 (b : Bool) : Sl → Sl
  | .own ds => if b then .val (.lst ds) else .own ds
  | s => s
def frz (keep : List Nat) : Nat → Env2 → Env2
  | _, [] => []
  | n, s :: r => frz1 (keep.contains n) s :: frz keep (n + 1) r
theorem fzE_get (keep : List Nat) : ∀ (ρ : Env2) (n i : Nat), (fzE keep n ρ)[i]? = (ρ[i]?).map (fz1 (keep.contains (n + i)))
  | [], _, i => by simp [fzE]
  | s :: r, n, 0 => by simp [fzE]
  | s :: r, n, i + 1 => by
    rw [fzE, List.getElem?_cons_succ, fzE_get keep r (n + 1) i, List.getElem?_cons_succ, Nat.add_right_comm, Nat.add_assoc]
theorem frz_get (keep : List Nat) : ∀ (ρ : Env2) (n i : Nat), (frz keep n ρ)[i]? = (ρ[i]?).map (frz1 (keep.contains (n + i)))
  | [], _, i => by simp [frz]
  | s :: r, n, 0 => by simp [frz]
  | s :: r, n, i + 1 => by
    rw [frz, List.getElem?_cons_succ, frz_get keep r (n + 1) i, List.getElem?_cons_succ, Nat.add_right_comm, Nat.add_assoc]
theorem fzE_len (keep : List Nat) : ∀ (ρ : Env2) (n : Nat), (fzE keep n ρ).length = ρ.length
  | [], _ => rfl
  | s :: r, n => by rw [fzE, List.length_cons, fzE_len keep r, List.length_cons]
theorem frz_len (keep : List Nat) : ∀ (ρ : Env2) (n : Nat), (frz keep n ρ).length = ρ.length
  | [], _ => rfl
  | s :: r, n => by rw [frz, List.length_cons, frz_len keep r, List.length_cons]
theorem frz_nil : ∀ (ρ : Env2) (n : Nat), frz [] n ρ = ρ
  | [], _ => rfl
  | s :: r, n => by
    rw [frz, frz_nil r]
    cases s <;> rfl

structure RelS (X : Cx) (W0 W : Wd) (ρ : Env2) (S : Sh) (σ : L2.St) (H : Hp) : Prop where
  base : Base X.K W S H
  ent : Stp W0 W X.H_0 H
  len : ρ.length = σ.length
  val : ∀ (i : Nat) d, ρ[i]? = some (.val d) → ∃ v, σ[i]? = some (some v) ∧ Rep W d v
  own : ∀ (i : Nat) ds, ρ[i]? = some (.own ds) → ∃ a vs, σ[i]? = some (some (.ref a)) ∧ H a = some (.lst vs) ∧ Reps W ds vs ∧ W.T a = none ∧ a ∉ W.m ∧ X.H_0 a = none
  inj : ∀ (i j : Nat) ds es a, ρ[i]? = some (.own ds) → ρ[j]? = some (.own es) → σ[i]? = some (some (V.ref a)) → σ[j]? = some (some (V.ref a)) → i = j

section
variable {X : Cx} {W0 W W1 : Wd} {ρ : Env2} {S S1 : Sh} {σ : L2.St} {H H1 : Hp}
theorem RelS.step (R : RelS X W0 W ρ S σ H) (s : Stp W W1 H H1) (B : Base X.K W1 S1 H1) : RelS X W0 W1 ρ S1 σ H1 := by
  refine ⟨B, R.ent.trans s, R.len, fun i d h => ?_, fun i ds h => ?_, R.inj⟩
  · obtain ⟨v, h1, h2⟩ := R.val i d h
    exact ⟨v, h1, h2.mono s.le⟩
  · obtain ⟨a, vs, h1, h2, h3, h4, h5, h6⟩ := R.own i ds h
    refine ⟨a, vs, h1, s.keep a _ h2 h5, h3.mono s.le, ?_, fun q => ?_, h6⟩
    · cases q : W1.T a with
      | none => rfl
      | some o =>
        rcases s.newT a o q with z | z
        · rw [h4] at z; cases z
        · rw [h2] at z; cases z
    · rcases s.new a q with z | z
      · exact h5 z
      · rw [h2] at z; cases z

/-- the addresses of the own lists in keep -/
def OwnAt (keep : List Nat) (ρ : Env2) (σ : L2.St) (a : Addr) : Prop := ∃ i ds, keep.contains i = true ∧ ρ[i]? = some (.own ds) ∧ σ[i]? = some (some (V.ref a))
open Classical in
noncomputable def wF (keep : List Nat) (W : Wd) (ρ : Env2) (σ : L2.St) (H : Hp) : Wd := { W with T := fun a => if OwnAt keep ρ σ a then H a else W.T a }
theorem wF_at {keep : List Nat} {a : Addr} (h : OwnAt keep ρ σ a) : (wF keep W ρ σ H).T a = H a := if_pos h
theorem wF_ne {keep : List Nat} {a : Addr} (h : ¬ OwnAt keep ρ σ a) : (wF keep W ρ σ H).T a = W.T a := if_neg h
theorem wF_le (keep : List Nat) (R : RelS X W0 W ρ S σ H) : Le W (wF keep W ρ σ H) := by
  refine ⟨fun _ _ h => h, fun a o h => ?_, rfl⟩
  rw [wF_ne]
  · exact h
  · rintro ⟨i, ds, _, h2, h3⟩
    obtain ⟨b, vs, k1, k2, k3, k4, _⟩ := R.own i ds h2
    rw [h3] at k1; cases k1
    rw [h] at k4; cases k4
theorem wF_base (keep : List Nat) (R : RelS X W0 W ρ S σ H) : Base X.K (wF keep W ρ σ H) S H := by
  have B := R.base
  refine ⟨fun a o h => ?_, B.len, fun i ds h => ?_, B.nod, fun a h => ?_, B.sa⟩
  · by_cases q : OwnAt keep ρ σ a
    · rw [wF_at q] at h
      exact .inl h
    · rw [wF_ne q] at h
      exact B.fro a o h
  · obtain ⟨a, vs, h1, h2, h3⟩ := B.sh i ds h
    exact ⟨a, vs, h1, h2, h3.mono (wF_le keep R)⟩
  · rw [wF_ne]
    · exact B.apart a h
    · rintro ⟨i, ds, _, h2, h3⟩
      obtain ⟨b, vs, k1, k2, k3, k4, k5, _⟩ := R.own i ds h2
      rw [h3] at k1; cases k1
      exact k5 h
theorem wF_ent (keep : List Nat) (R : RelS X W0 W ρ S σ H) : Stp W0 (wF keep W ρ σ H) X.H_0 H := by
  have E := R.ent
  refine ⟨E.le.trans (wF_le keep R), E.keep, E.new, E.ex, fun a o h => ?_⟩
  by_cases q : OwnAt keep ρ σ a
  · obtain ⟨i, ds, _, h2, h3⟩ := q
    obtain ⟨b, vs, k1, k2, k3, k4, k5, k6⟩ := R.own i ds h2
    rw [h3] at k1; cases k1
    exact .inr k6
  · rw [wF_ne q] at h
    exact E.newT a o h
theorem wF_rel (keep : List Nat) (R : RelS X W0 W ρ S σ H) : Rel X.K (wF keep W ρ σ H) (fzE keep 0 ρ) S σ H := by
  refine ⟨wF_base keep R, by rw [fzE_len]; exact R.len, fun i d h => ?_⟩
  rw [fzE_get, Nat.zero_add] at h
  cases q : ρ[i]? with
  | none => rw [q] at h; cases h
  | some s =>
    rw [q] at h
    cases s with
    | no => cases h
    | val d' =>
      cases h
      obtain ⟨v, h1, h2⟩ := R.val i _ q
      exact ⟨v, h1, h2.mono (wF_le keep R)⟩
    | own ds =>
      simp only [Option.map_some, fz1, Option.some.injEq, Option.ite_none_right_eq_some] at h
      obtain ⟨h1, h2⟩ := h
      cases h2
      obtain ⟨a, vs, k1, k2, k3, k4, _⟩ := R.own i ds q
      exact ⟨_, k1, a, vs, rfl, by rw [wF_at ⟨i, ds, h1, q, k1⟩]; exact k2, k3.mono (wF_le keep R)⟩
theorem wF_relS (keep : List Nat) (R : RelS X W0 W ρ S σ H) : RelS X W0 (wF keep W ρ σ H) (frz keep 0 ρ) S σ H := by
  have ow : ∀ (i : Nat) ds, (frz keep 0 ρ)[i]? = some (.own ds) → ρ[i]? = some (.own ds) ∧ keep.contains i = false := fun i ds h => by
    rw [frz_get, Nat.zero_add] at h
    cases q : ρ[i]? with
    | none => rw [q] at h; cases h
    | some s =>
      rw [q] at h
      cases s with
      | no => cases h
      | val d' => cases h
      | own es =>
        simp only [Option.map_some, frz1, Option.some.injEq] at h
        cases c : keep.contains i with
        | true => rw [c] at h; simp at h
        | false =>
          rw [c] at h
          simp only [Bool.false_eq_true, if_false, Sl.own.injEq] at h
          rw [h]
          exact ⟨rfl, rfl⟩
  refine ⟨wF_base keep R, wF_ent keep R, by rw [frz_len]; exact R.len, fun i d h => ?_, fun i ds h => ?_, fun i j ds es a h1 h2 => R.inj i j ds es a (ow i ds h1).1 (ow j es h2).1⟩
  · rw [frz_get, Nat.zero_add] at h
    cases q : ρ[i]? with
    | none => rw [q] at h; cases h
    | some s =>
      rw [q] at h
      cases s with
      | no => cases h
      | val d' =>
        cases h
        obtain ⟨v, h1, h2⟩ := R.val i _ q
        exact ⟨v, h1, h2.mono (wF_le keep R)⟩
      | own es =>
        simp only [Option.map_some, frz1, Option.some.injEq] at h
        cases c : keep.contains i with
        | false => rw [c] at h; simp at h
        | true =>
          rw [c] at h
          simp only [if_true, Sl.val.injEq] at h
          subst h
          obtain ⟨a, vs, k1, k2, k3, k4, _⟩ := R.own i es q
          exact ⟨_, k1, a, vs, rfl, by rw [wF_at ⟨i, es, c, q, k1⟩]; exact k2, k3.mono (wF_le keep R)⟩
  · obtain ⟨h1, h2⟩ := ow i ds h
    obtain ⟨a, vs, k1, k2, k3, k4, k5, k6⟩ := R.own i ds h1
    refine ⟨a, vs, k1, k2, k3.mono (wF_le keep R), ?_, k5, k6⟩
    rw [wF_ne]
    · exact k4
    · rintro ⟨j, es, c, e1, e2⟩
      have := R.inj i j ds es a h1 e1 k1 e2
      subst this
      rw [h2] at c; cases c
/-- after a look: the own lists are own again -/
def chk (keep : List Nat) (S : Sh) : Bool := keep.isEmpty || pureSh S
theorem wP (keep : List Nat) (R : RelS X W0 W ρ S σ H) (s : Stp (wF keep W ρ σ H) W1 H H1) (B : Base X.K W1 S1 H1) (hS : chk keep S1 = true) :
    ∃ W2, RelS X W0 W2 ρ S1 σ H1 ∧ (∀ d v, (pureD d = true ∨ keep.isEmpty = true) → Rep W1 d v → Rep W2 d v) ∧ (∀ a, W2.T a = W1.T a ∨ OwnAt keep ρ σ a) ∧ W2.m = W1.m ∧ W2.sa = W1.sa ∧ Le W W2 := by
  classical
  refine ⟨{ W1 with T := fun a => if OwnAt keep ρ σ a then none else W1.T a }, ?_⟩
  have t1 : ∀ a, OwnAt keep ρ σ a → ∃ vs, W1.T a = some (.lst vs) ∧ H a = some (.lst vs) ∧ X.H_0 a = none ∧ W.T a = none ∧ a ∉ W.m := fun a q => by
    obtain ⟨i, ds, c, h2, h3⟩ := id q
    obtain ⟨b, vs, k1, k2, k3, k4, k5, k6⟩ := R.own i ds h2
    rw [h3] at k1; cases k1
    exact ⟨vs, s.le.T _ _ (by rw [wF_at q]; exact k2), k2, k6, k4, k5⟩
  have hne : ∀ a, ¬ OwnAt keep ρ σ a → (if OwnAt keep ρ σ a then none else W1.T a) = W1.T a := fun a q => if_neg q
  have htup : ∀ a vs, W1.T a = some (.tup vs) → (if OwnAt keep ρ σ a then none else W1.T a) = some (.tup vs) := fun a vs h => by
    rw [hne]
    · exact h
    · intro q
      obtain ⟨us, z, _⟩ := t1 a q
      rw [h] at z; cases z
  have le : Le W { W1 with T := fun a => if OwnAt keep ρ σ a then none else W1.T a } := by
    refine ⟨fun i a h => s.le.m i a h, fun a o h => ?_, s.le.sa⟩
    show (if OwnAt keep ρ σ a then none else W1.T a) = some o
    have q : ¬ OwnAt keep ρ σ a := fun q => by
      obtain ⟨us, _, _, _, z, _⟩ := t1 a q
      rw [h] at z; cases z
    rw [hne a q]
    exact s.le.T _ _ (by rw [wF_ne q]; exact h)
  have em : keep.isEmpty = true → ∀ a, ¬ OwnAt keep ρ σ a := fun e a ⟨i, ds, c, _⟩ => by
    rw [List.isEmpty_iff] at e
    subst e
    cases c
  have pu : ∀ ds : List D, (pureDs ds = true ∨ keep.isEmpty = true) → ∀ vs, Reps W1 ds vs → Reps { W1 with T := fun a => if OwnAt keep ρ σ a then none else W1.T a } ds vs := fun ds h vs r => by
    rcases h with h | h
    · exact Reps.pure (W := W1) (W' := { W1 with T := fun a => if OwnAt keep ρ σ a then none else W1.T a }) (fun _ _ h => h) htup rfl ds h r
    · exact Reps.mono (W := W1) (W' := { W1 with T := fun a => if OwnAt keep ρ σ a then none else W1.T a }) ⟨fun _ _ h => h, fun a o h' => by
        show (if OwnAt keep ρ σ a then none else W1.T a) = some o
        rw [hne a (em h a)]
        exact h', rfl⟩ ds r
  have pu1 : ∀ d v, (pureD d = true ∨ keep.isEmpty = true) → Rep W1 d v → Rep { W1 with T := fun a => if OwnAt keep ρ σ a then none else W1.T a } d v := fun d v h r => by
    rcases h with h | h
    · exact Rep.pure (W := W1) (W' := { W1 with T := fun a => if OwnAt keep ρ σ a then none else W1.T a }) (fun _ _ h => h) htup rfl d h r
    · exact Rep.mono (W := W1) (W' := { W1 with T := fun a => if OwnAt keep ρ σ a then none else W1.T a }) ⟨fun _ _ h => h, fun a o h' => by
        show (if OwnAt keep ρ σ a then none else W1.T a) = some o
        rw [hne a (em h a)]
        exact h', rfl⟩ d r
  have chk' : ∀ (i : Nat) ds, S1[i]? = some ds → pureDs ds = true ∨ keep.isEmpty = true := fun i ds h => by
    unfold chk at hS
    rw [Bool.or_eq_true] at hS
    rcases hS with z | z
    · exact .inr z
    · exact .inl (pureSh_get z h)
  have E : Stp W0 W1 X.H_0 H1 := (wF_ent keep R).trans s
  refine ⟨⟨⟨fun a o h => ?_, B.len, fun i ds h => ?_, B.nod, fun a h => ?_, B.sa⟩, ⟨?_, E.keep, E.new, E.ex, fun a o h => ?_⟩, R.len, fun i d h => ?_, fun i ds h => ?_, R.inj⟩, pu1, fun a => ?_, rfl, rfl, le⟩
  · have h' : (if OwnAt keep ρ σ a then none else W1.T a) = some o := h
    by_cases q : OwnAt keep ρ σ a
    · rw [if_pos q] at h'; cases h'
    · rw [hne a q] at h'
      exact B.fro a o h'
  · obtain ⟨a, vs, h1, h2, h3⟩ := B.sh i ds h
    exact ⟨a, vs, h1, h2, pu ds (chk' i ds h) vs h3⟩
  · show (if OwnAt keep ρ σ a then none else W1.T a) = none
    by_cases q : OwnAt keep ρ σ a
    · rw [if_pos q]
    · rw [hne a q]
      exact B.apart a h
  · exact R.ent.le.trans le
  · have h' : (if OwnAt keep ρ σ a then none else W1.T a) = some o := h
    by_cases q : OwnAt keep ρ σ a
    · rw [if_pos q] at h'; cases h'
    · rw [hne a q] at h'
      exact E.newT a o h'
  · obtain ⟨v, h1, h2⟩ := R.val i d h
    exact ⟨v, h1, h2.mono le⟩
  · obtain ⟨a, vs, k1, k2, k3, k4, k5, k6⟩ := R.own i ds h
    refine ⟨a, vs, k1, s.keep a _ k2 k5, k3.mono le, ?_, fun q => ?_, k6⟩
    · show (if OwnAt keep ρ σ a then none else W1.T a) = none
      by_cases q : OwnAt keep ρ σ a
      · rw [if_pos q]
      · rw [hne a q]
        cases e : W1.T a with
        | none => rfl
        | some o =>
          rcases s.newT a o e with z | z
          · rw [wF_ne q, k4] at z; cases z
          · rw [k2] at z; cases z
    · rcases s.new a q with z | z
      · exact k5 z
      · rw [k2] at z; cases z
  · by_cases q : OwnAt keep ρ σ a
    · exact .inr q
    · exact .inl (hne a q)
end
end DL


/-! DL6: statements -/
namespace DL
open PySem L2 PyProof.Rows

inductive Out where
  | nx (ρ : Env2) (S : Sh) | rt (d : D) (S : Sh) | ro (ds : List D) (S : Sh) | bk (ρ : Env2) (S : Sh) | ct (ρ : Env2) (S : Sh)
abbrev DS := Env2 → Sh → Option Out

section
variable {X : Cx} {W0 W W1 : Wd} {ρ : Env2} {S S1 : Sh} {σ : L2.St} {H H1 : Hp} {keep : List Nat}
def After (X : Cx) (W0 W : Wd) (D : Ends) : Out → Prop
  | .nx ρ S => ∀ W' σ H, Le W W' → RelS X W0 W' ρ S σ H → D.nx σ H
  | .bk ρ S => ∀ W' σ H, Le W W' → RelS X W0 W' ρ S σ H → D.bk σ H
  | .ct ρ S => ∀ W' σ H, Le W W' → RelS X W0 W' ρ S σ H → D.ct σ H
  | .rt r S => ∀ W' v H, Stp W0 W' X.H_0 H → Base X.K W' S H → Rep W' r v → D.rt v H
  | .ro ds S => ∀ W' a vs H, Stp W0 W' X.H_0 H → Base X.K W' S H → H a = some (.lst vs) → Reps W' ds vs → W'.T a = none → a ∉ W'.m → X.H_0 a = none → D.rt (.ref a) H
theorem After.le {D : Ends} {o : Out} (l : Le W W1) (h : After X W0 W D o) : After X W0 W1 D o := by
  cases o with
  | nx ρ S => exact fun W' σ H l' => h W' σ H (l.trans l')
  | bk ρ S => exact fun W' σ H l' => h W' σ H (l.trans l')
  | ct ρ S => exact fun W' σ H l' => h W' σ H (l.trans l')
  | rt r S => exact h
  | ro r S => exact h
def liftS (X : Cx) (d : DS) : TS := fun D σ H => ∃ W0 W ρ S o, RelS X W0 W ρ S σ H ∧ d ρ S = some o ∧ After X W0 W D o
abbrev PS' (X : Cx) (st : Stmt) (d : DS) : Prop := PS X st (liftS X d)
abbrev PSs' (X : Cx) (st : List Stmt) (d : DS) : Prop := PSs X st (liftS X d)
theorem PS.imp {st : Stmt} {t t' : TS} (h : PS X st t) (hi : ∀ D σ H, t' D σ H → t D σ H) : PS X st t' := ⟨fun pins s σ H D I hw => h.run pins s σ H D I (hi _ _ _ hw)⟩
theorem PSs.imp {st : List Stmt} {t t' : TS} (h : PSs X st t) (hi : ∀ D σ H, t' D σ H → t D σ H) : PSs X st t' := ⟨fun pins s σ H D I hw => h.run pins s σ H D I (hi _ _ _ hw)⟩

/-! ### looks from a statement -/
theorem evF {d : DE} {r : D} {Q : VK} (R : RelS X W0 W ρ S σ H) (e : d (fzE keep 0 ρ) S = some (r, S1)) (k : ∀ W1 v H1, Le W W1 → RelS X W0 W1 (frz keep 0 ρ) S1 σ H1 → Rep W1 r v → Q v H1) : liftE X.K d σ H Q :=
  ⟨_, _, S, r, S1, wF_rel keep R, e, fun W1 v H1 s R1 r1 => k W1 v H1 ((wF_le keep R).trans s.le) ((wF_relS keep R).step s R1.base) r1⟩
theorem evP {d : DE} {r : D} {Q : VK} (R : RelS X W0 W ρ S σ H) (e : d (fzE keep 0 ρ) S = some (r, S1)) (hS : chk keep S1 = true) (k : ∀ W1 v H1, Le W W1 → RelS X W0 W1 ρ S1 σ H1 → ((pureD r = true ∨ keep.isEmpty = true) → Rep W1 r v) → Q v H1) : liftE X.K d σ H Q :=
  ⟨_, _, S, r, S1, wF_rel keep R, e, fun W1 v H1 s R1 r1 => by
    obtain ⟨W2, R2, p2, _, _, _, l2⟩ := wP keep R s R1.base hS
    exact k W2 v H1 l2 R2 fun h => p2 r v h r1⟩
theorem evT {d : DT} {r : Bool} {Q : Bool → Hp → Prop} (R : RelS X W0 W ρ S σ H) (e : d (fzE keep 0 ρ) S = some (r, S1)) (hS : chk keep S1 = true) (k : ∀ W1 H1, Le W W1 → RelS X W0 W1 ρ S1 σ H1 → Q r H1) : liftT X.K d σ H Q :=
  ⟨_, _, S, r, S1, wF_rel keep R, e, fun W1 H1 s R1 => by
    obtain ⟨W2, R2, _, _, _, _, l2⟩ := wP keep R s R1.base hS
    exact k W2 H1 l2 R2⟩
theorem evA {d : DA} {r : List D} {Q : List V → Hp → Prop} (R : RelS X W0 W ρ S σ H) (e : d (fzE keep 0 ρ) S = some (r, S1)) (k : ∀ W1 vs H1, Le W W1 → RelS X W0 W1 (frz keep 0 ρ) S1 σ H1 → Reps W1 r vs → Q vs H1) : liftA X.K d σ H Q :=
  ⟨_, _, S, r, S1, wF_rel keep R, e, fun W1 v H1 s R1 r1 => k W1 v H1 ((wF_le keep R).trans s.le) ((wF_relS keep R).step s R1.base) r1⟩
theorem evAP {d : DA} {r : List D} {Q : List V → Hp → Prop} (R : RelS X W0 W ρ S σ H) (e : d (fzE keep 0 ρ) S = some (r, S1)) (hS : chk keep S1 = true) (k : ∀ W1 vs H1, Le W W1 → RelS X W0 W1 ρ S1 σ H1 → (pureDs r = true → Reps W1 r vs) → Q vs H1) : liftA X.K d σ H Q :=
  ⟨_, _, S, r, S1, wF_rel keep R, e, fun W1 vs H1 s R1 r1 => by
    obtain ⟨W2, R2, _, t2, m2, s2, l2⟩ := wP keep R s R1.base hS
    refine k W2 vs H1 l2 R2 fun h => Reps.pure (fun i a h => by rw [m2]; exact h) (fun a us h => ?_) s2 r h r1
    rcases t2 a with z | ⟨i, ds, c, z1, z2⟩
    · rw [z]; exact h
    · obtain ⟨b, vs, k1, k2, k3, k4, k5, k6⟩ := R.own i ds z1
      rw [z2] at k1; cases k1
      have := s.le.T _ _ ((wF_at (W := W) (H := H) ⟨i, ds, c, z1, z2⟩).trans k2)
      rw [h] at this; cases this⟩

/-! ### stores -/
theorem RelS.set (R : RelS X W0 W ρ S σ H) (i : Nat) {d : D} {v : V} (r : Rep W d v) : RelS X W0 W (ρ.set i (.val d)) S (σ.set i (some v)) H := by
  have low : ∀ (j : Nat) ds, (ρ.set i (.val d))[j]? = some (.own ds) → ρ[j]? = some (.own ds) ∧ (σ.set i (some v))[j]? = σ[j]? := fun j ds h => by
    by_cases e : i = j
    · subst e
      by_cases l : i < ρ.length
      · rw [List.getElem?_set_self l] at h; cases h
      · rw [List.getElem?_eq_none (by simpa using l)] at h; cases h
    · rw [List.getElem?_set_ne e] at h
      exact ⟨h, List.getElem?_set_ne e⟩
  refine ⟨R.base, R.ent, by simp [R.len], fun j d' h => ?_, fun j ds h => ?_, fun j k ds es a h1 h2 h3 h4 => ?_⟩
  · by_cases e : i = j
    · subst e
      by_cases l : i < ρ.length
      · rw [List.getElem?_set_self l] at h
        cases h
        exact ⟨v, List.getElem?_set_self (by rw [← R.len]; exact l), r⟩
      · rw [List.getElem?_eq_none (by simpa using l)] at h; cases h
    · rw [List.getElem?_set_ne e] at h
      rw [List.getElem?_set_ne e]
      exact R.val j d' h
  · obtain ⟨h1, h2⟩ := low j ds h
    rw [h2]
    exact R.own j ds h1
  · obtain ⟨p1, q1⟩ := low j ds h1
    obtain ⟨p2, q2⟩ := low k es h2
    rw [q1] at h3
    rw [q2] at h4
    exact R.inj j k ds es a p1 p2 h3 h4
/-- a slot takes a new list of its own -/
theorem RelS.setOwn (R : RelS X W0 W ρ S σ H) (i : Nat) {ds : List D} {a : Addr} {vs : List V} (h0 : H a = some (.lst vs)) (r : Reps W ds vs) (ht : W.T a = none) (hm : a ∉ W.m) (hH : X.H_0 a = none)
    (hn : ∀ (j : Nat) es, ρ[j]? = some (.own es) → σ[j]? ≠ some (some (V.ref a))) : RelS X W0 W (ρ.set i (.own ds)) S (σ.set i (some (.ref a))) H := by
  have low : ∀ (j : Nat) es, (ρ.set i (.own ds))[j]? = some (.own es) → (j = i ∧ es = ds ∧ (σ.set i (some (V.ref a)))[j]? = some (some (.ref a))) ∨ (j ≠ i ∧ ρ[j]? = some (.own es) ∧ (σ.set i (some (V.ref a)))[j]? = σ[j]?) := fun j es h => by
    by_cases e : i = j
    · subst e
      by_cases l : i < ρ.length
      · rw [List.getElem?_set_self l] at h
        cases h
        exact .inl ⟨rfl, rfl, List.getElem?_set_self (by rw [← R.len]; exact l)⟩
      · rw [List.getElem?_eq_none (by simpa using l)] at h; cases h
    · rw [List.getElem?_set_ne e] at h
      exact .inr ⟨Ne.symm e, h, List.getElem?_set_ne e⟩
  refine ⟨R.base, R.ent, by simp [R.len], fun j d' h => ?_, fun j es h => ?_, fun j k ds' es b h1 h2 h3 h4 => ?_⟩
  · by_cases e : i = j
    · subst e
      by_cases l : i < ρ.length
      · rw [List.getElem?_set_self l] at h; cases h
      · rw [List.getElem?_eq_none (by simpa using l)] at h; cases h
    · rw [List.getElem?_set_ne e] at h
      rw [List.getElem?_set_ne e]
      exact R.val j d' h
  · rcases low j es h with ⟨_, rfl, h2⟩ | ⟨_, h1, h2⟩
    · exact ⟨a, vs, h2, h0, r, ht, hm, hH⟩
    · rw [h2]
      exact R.own j es h1
  · rcases low j ds' h1 with ⟨e1, _, q1⟩ | ⟨e1, p1, q1⟩ <;> rcases low k es h2 with ⟨e2, _, q2⟩ | ⟨e2, p2, q2⟩
    · rw [e1, e2]
    · rw [q1] at h3; cases h3
      rw [q2] at h4
      exact absurd h4 (hn k es p2)
    · rw [q2] at h4; cases h4
      rw [q1] at h3
      exact absurd h3 (hn j ds' p1)
    · rw [q1] at h3
      rw [q2] at h4
      exact R.inj j k ds' es b p1 p2 h3 h4
/-- an own list is changed -/
theorem RelS.upd (R : RelS X W0 W ρ S σ H) {i : Nat} {es ds : List D} {a : Addr} {vs : List V} (ho : ρ[i]? = some (.own es)) (ha : σ[i]? = some (some (V.ref a))) (r : Reps W ds vs) : RelS X W0 W (ρ.set i (.own ds)) S σ (upd H a (.lst vs)) := by
  obtain ⟨a', us, k1, k2, k3, k4, k5, k6⟩ := R.own i es ho
  rw [ha] at k1
  cases k1
  have B := R.base
  have hlt : i < ρ.length := (List.getElem?_eq_some_iff.mp ho).1
  have low : ∀ (j : Nat) xs, (ρ.set i (.own ds))[j]? = some (.own xs) → (j = i ∧ xs = ds) ∨ (j ≠ i ∧ ρ[j]? = some (.own xs)) := fun j xs h => by
    by_cases e : i = j
    · subst e
      rw [List.getElem?_set_self hlt] at h
      cases h
      exact .inl ⟨rfl, rfl⟩
    · rw [List.getElem?_set_ne e] at h
      exact .inr ⟨Ne.symm e, h⟩
  have own_ : ∀ (j : Nat) xs, (ρ.set i (.own ds))[j]? = some (.own xs) → ∃ ys, ρ[j]? = some (.own ys) := fun j xs h => by
    rcases low j xs h with ⟨rfl, _⟩ | ⟨_, h⟩
    · exact ⟨es, ho⟩
    · exact ⟨xs, h⟩
  refine ⟨⟨fun b o h => ?_, B.len, fun j xs h => ?_, B.nod, B.apart, fun b ws h => ?_⟩, ⟨R.ent.le, fun b o h n => ?_, R.ent.new, fun b o h => ?_, R.ent.newT⟩, by simp [R.len], fun j d h => ?_, fun j xs h => ?_, fun j k xs ys b h1 h2 => ?_⟩
  · have ne : b ≠ a := fun e => by rw [e, k4] at h; cases h
    rcases B.fro b o h with z | ⟨y, x, z⟩
    · exact .inl (by rw [upd_ne ne]; exact z)
    · exact .inr ⟨y, x, by rw [upd_ne ne]; exact z⟩
  · obtain ⟨b, ws, h1, h2, h3⟩ := B.sh j xs h
    exact ⟨b, ws, h1, by rw [upd_ne (fun e => k5 (by rw [← e]; exact List.mem_of_getElem? h1))]; exact h2, h3⟩
  · have h1 := B.sa b ws h
    rcases h1 with ⟨x, z⟩ | z
    · exact .inl ⟨x, by rw [upd_ne (fun e => by rw [e, k2] at z; cases z)]; exact z⟩
    · exact .inr z
  · rw [upd_ne (fun e => by rw [e, k6] at h; cases h)]
    exact R.ent.keep b o h n
  · by_cases e : b = a
    · exact ⟨_, by rw [e]; exact upd_same⟩
    · rw [upd_ne e]
      exact R.ent.ex b o h
  · by_cases e : i = j
    · subst e
      rw [List.getElem?_set_self hlt] at h; cases h
    · rw [List.getElem?_set_ne e] at h
      exact R.val j d h
  · rcases low j xs h with ⟨rfl, rfl⟩ | ⟨ne, h1⟩
    · exact ⟨a, vs, ha, upd_same, r, k4, k5, k6⟩
    · obtain ⟨b, ws, p1, p2, p3, p4, p5, p6⟩ := R.own j xs h1
      refine ⟨b, ws, p1, ?_, p3, p4, p5, p6⟩
      rw [upd_ne]
      · exact p2
      · intro e
        subst e
        exact ne (R.inj j i xs es b h1 ho p1 ha)
  · obtain ⟨xs', h1'⟩ := own_ j xs h1
    obtain ⟨ys', h2'⟩ := own_ k ys h2
    exact R.inj j k xs' ys' b h1' h2'

/-! ### statements -/
def sPass : DS := fun ρ S => some (.nx ρ S)
def sBrk : DS := fun ρ S => some (.bk ρ S)
def sCnt : DS := fun ρ S => some (.ct ρ S)
def sSeq (d1 d2 : DS) : DS := fun ρ S => (d1 ρ S).bind fun o => match o with
  | .nx ρ' S' => d2 ρ' S'
  | o => some o
def sRet (keep : List Nat) (d : DE) : DS := fun ρ S => (d (fzE keep 0 ρ) S).map fun p => .rt p.1 p.2
def sRetN : DS := fun _ S => some (.rt .non S)
def sRetO (i : Nat) : DS := fun ρ S => match ρ[i]? with
  | some (.own ds) => some (.ro ds S)
  | _ => none
def sSetF (keep : List Nat) (i : Nat) (d : DE) : DS := fun ρ S => (d (fzE keep 0 ρ) S).map fun p => .nx ((frz keep 0 ρ).set i (.val p.1)) p.2
def sSetP (keep : List Nat) (i : Nat) (d : DE) : DS := fun ρ S => (d (fzE keep 0 ρ) S).bind fun p => if chk keep p.2 && (pureD p.1 || keep.isEmpty) then some (.nx (ρ.set i (.val p.1)) p.2) else none
def sExp (keep : List Nat) (d : DE) : DS := fun ρ S => (d (fzE keep 0 ρ) S).bind fun p => if chk keep p.2 then some (.nx ρ p.2) else none
def sIf (keep : List Nat) (t : DT) (d1 d2 : DS) : DS := fun ρ S => (t (fzE keep 0 ρ) S).bind fun p => if chk keep p.2 then (if p.1 then d1 ρ p.2 else d2 ρ p.2) else none
variable {st : Stmt} {rest : List Stmt} {e c : Expr} {d1 d2 : DS} {da : DE} {dt : DT} {pos : Pos} {a b : List Stmt}
theorem dpss_nil : PSs' X [] sPass := PSs.imp pss_nil fun D σ H => by
  rintro ⟨W0, W, ρ, S, o, R, h, k⟩
  cases h
  exact k W σ H (.refl _) R
theorem dps_pass : PS' X (.Pass pos) sPass := PS.imp ps_pass fun D σ H => by
  rintro ⟨W0, W, ρ, S, o, R, h, k⟩
  cases h
  exact k W σ H (.refl _) R
theorem dps_break : PS' X (.Break pos) sBrk := PS.imp ps_break fun D σ H => by
  rintro ⟨W0, W, ρ, S, o, R, h, k⟩
  cases h
  exact k W σ H (.refl _) R
theorem dps_continue : PS' X (.Continue pos) sCnt := PS.imp ps_continue fun D σ H => by
  rintro ⟨W0, W, ρ, S, o, R, h, k⟩
  cases h
  exact k W σ H (.refl _) R
theorem seq_of {D : Ends} {σ : L2.St} {H : Hp} (h : liftS X (sSeq d1 d2) D σ H) : tSeq (liftS X d1) (liftS X d2) D σ H := by
  obtain ⟨W0, W, ρ, S, o, R, h, k⟩ := h
  obtain ⟨o1, e1, h⟩ := bindS h
  refine ⟨W0, W, ρ, S, o1, R, e1, ?_⟩
  cases o1 with
  | nx ρ1 S1 => exact fun W' σ' H' l R' => ⟨W0, W', ρ1, S1, o, R', h, k.le l⟩
  | _ => cases h; exact k
theorem dpss_cons (h1 : PS' X st d1) (h2 : PSs' X rest d2) : PSs' X (st :: rest) (sSeq d1 d2) := PSs.imp (pss_cons h1 h2) fun _ _ _ h => seq_of h
theorem dpss_one (h1 : PS' X st d1) : PSs' X [st] d1 := pss_one h1
theorem dps_ret (keep : List Nat) (he : PE' X e da) : PS' X (.Return (some e) pos) (sRet keep da) := PS.imp (ps_ret he) fun D σ H => by
  rintro ⟨W0, W, ρ, S, o, R, h, k⟩
  obtain ⟨⟨r, S1⟩, e1, h⟩ := mapS h
  cases h
  exact evF R e1 fun W1 v H1 l R1 r1 => k W1 v H1 R1.ent R1.base r1
theorem dps_retN : PS' X (.Return none pos) sRetN := PS.imp ps_retN fun D σ H => by
  rintro ⟨W0, W, ρ, S, o, R, h, k⟩
  cases h
  exact k W _ H R.ent R.base rfl
theorem dps_retO (i : Nat) (he : PE X e (tVar i)) : PS' X (.Return (some e) pos) (sRetO i) := PS.imp (ps_ret he) fun D σ H => by
  rintro ⟨W0, W, ρ, S, o, R, h, k⟩
  unfold sRetO at h
  split at h
  · rename_i ds q
    cases h
    obtain ⟨a, vs, k1, k2, k3, k4, k5, k6⟩ := R.own i ds q
    exact ⟨_, k1, k W a vs H R.ent R.base k2 k3 k4 k5 k6⟩
  · cases h
theorem setF_of (keep : List Nat) {i : Nat} {st : Stmt} (h : PS X st (tAsg (liftE X.K da) (gName i))) : PS' X st (sSetF keep i da) := PS.imp h fun D σ H => by
  rintro ⟨W0, W, ρ, S, o, R, h, k⟩
  obtain ⟨⟨r, S1⟩, e1, h⟩ := mapS h
  cases h
  exact evF R e1 fun W1 v H1 l R1 r1 => k W1 _ H1 l (R1.set i r1)
theorem dps_setF (keep : List Nat) {i : Nat} {x : Str} {pos' : Pos} (hN : X.N.Nodup) (hi : X.N[i]? = some x) (hx : Loc X.env.scope x) (he : PE' X e da) (hs : swapsWith e (some (.Name x pos')) pos.line X.env = pure false := by rfl) (hf : X.fn x = true ∨ X.env.scope.names.lookup x = some .local := by first | exact .inl rfl | exact .inr rfl | assumption) :
    PS' X (.Assign [.Name x pos'] e pos) (sSetF keep i da) := setF_of keep (ps_set hN hi hx he hs hf)
theorem setP_of (keep : List Nat) {i : Nat} {st : Stmt} (h : PS X st (tAsg (liftE X.K da) (gName i))) : PS' X st (sSetP keep i da) := PS.imp h fun D σ H => by
  rintro ⟨W0, W, ρ, S, o, R, h, k⟩
  obtain ⟨⟨r, S1⟩, e1, h⟩ := bindS h
  simp only [Option.ite_none_right_eq_some, Bool.and_eq_true, Bool.or_eq_true] at h
  obtain ⟨⟨h1, h2⟩, h⟩ := h
  cases h
  exact evP R e1 h1 fun W1 v H1 l R1 r1 => k W1 _ H1 l (R1.set i (r1 h2))
theorem dps_setP (keep : List Nat) {i : Nat} {x : Str} {pos' : Pos} (hN : X.N.Nodup) (hi : X.N[i]? = some x) (hx : Loc X.env.scope x) (he : PE' X e da) (hs : swapsWith e (some (.Name x pos')) pos.line X.env = pure false := by rfl) (hf : X.fn x = true ∨ X.env.scope.names.lookup x = some .local := by first | exact .inl rfl | exact .inr rfl | assumption) :
    PS' X (.Assign [.Name x pos'] e pos) (sSetP keep i da) := setP_of keep (ps_set hN hi hx he hs hf)
theorem dps_exp (keep : List Nat) (he : PE' X e da) (hs : swapsWith e none pos.line X.env = pure false := by rfl) : PS' X (.Expr e pos) (sExp keep da) := PS.imp (ps_expr he hs) fun D σ H => by
  rintro ⟨W0, W, ρ, S, o, R, h, k⟩
  obtain ⟨⟨r, S1⟩, e1, h⟩ := bindS h
  simp only [Option.ite_none_right_eq_some] at h
  obtain ⟨h1, h⟩ := h
  cases h
  exact evP R e1 h1 fun W1 v H1 l R1 _ => k W1 _ H1 l R1
theorem dps_if (keep : List Nat) (hc : PT' X c dt) (ha : PSs' X a d1) (hb : PSs' X b d2) : PS' X (.If c a b pos) (sIf keep dt d1 d2) := PS.imp (ps_if hc ha hb) fun D σ H => by
  rintro ⟨W0, W, ρ, S, o, R, h, k⟩
  obtain ⟨⟨r, S1⟩, e1, h⟩ := bindS h
  simp only [Option.ite_none_right_eq_some] at h
  obtain ⟨h1, h⟩ := h
  refine evT R e1 h1 fun W1 H1 l R1 => ?_
  cases r with
  | true =>
    rw [if_pos rfl]
    exact ⟨W0, W1, ρ, S1, o, R1, by simpa using h, k.le l⟩
  | false =>
    rw [if_neg Bool.false_ne_true]
    exact ⟨W0, W1, ρ, S1, o, R1, by simpa using h, k.le l⟩
end
end DL


/-! DL7: fresh lists, what is walked, comprehensions, for -/
namespace DL
open PySem L2 PyProof.Rows

/-! ### a new object that the world does not know -/
theorem Base.free {K : PySem.W.Frag} {W : Wd} {S : Sh} {H : Hp} {p : Addr} (B : Base K W S H) (hp : H p = none) : W.T p = none ∧ p ∉ W.m := by
  refine ⟨?_, fun h => ?_⟩
  · cases q : W.T p with
    | none => rfl
    | some u =>
      rcases B.fro p u q with z | ⟨_, x, z⟩ <;> (rw [hp] at z; cases z)
  · obtain ⟨i, hi⟩ := List.getElem?_of_mem h
    have hl : i < S.length := by
      rw [← B.len]
      exact (List.getElem?_eq_some_iff.mp hi).1
    obtain ⟨a, vs, h1, h2, _⟩ := B.sh i S[i] (List.getElem?_eq_getElem hl)
    rw [hi] at h1; cases h1
    rw [hp] at h2; cases h2
/-- the store at an address that the world does not know -/
theorem Base.put {K : PySem.W.Frag} {W : Wd} {S : Sh} {H : Hp} {p : Addr} {o : HO} (B : Base K W S H) (ht : W.T p = none) (hm : p ∉ W.m) (hz : ∀ x ys, H p ≠ some (.frz x (.lst ys))) : Base K W S (upd H p o) := by
  refine ⟨fun a u h => ?_, B.len, fun i ds h => ?_, B.nod, B.apart, fun a vs h => ?_⟩
  · have ne : a ≠ p := fun e => by rw [e, ht] at h; cases h
    rcases B.fro a u h with z | ⟨y, x, z⟩
    · exact .inl (by rw [upd_ne ne]; exact z)
    · exact .inr ⟨y, x, by rw [upd_ne ne]; exact z⟩
  · obtain ⟨a, vs, h1, h2, h3⟩ := B.sh i ds h
    exact ⟨a, vs, h1, by rw [upd_ne (fun e => hm (by rw [← e]; exact List.mem_of_getElem? h1))]; exact h2, h3⟩
  · have h1 := B.sa a vs h
    rcases h1 with ⟨x, z⟩ | z
    · exact .inl ⟨x, by rw [upd_ne (fun e => by rw [e] at z; exact hz _ _ z)]; exact z⟩
    · exact .inr z
theorem Stp.new_ (W : Wd) {H : Hp} {p : Addr} {o : HO} (hp : H p = none) : Stp W W H (upd H p o) := by
  refine ⟨.refl _, fun b u h _ => ?_, fun _ h => .inl h, fun b u h => ?_, fun _ _ h => .inl h⟩
  · rw [upd_ne (ne_of_none h hp)]; exact h
  · exact ⟨u, by rw [upd_ne (ne_of_none h hp)]; exact h⟩
theorem Base.alloc {K : PySem.W.Frag} {W : Wd} {S : Sh} {H : Hp} {p : Addr} (o : HO) (B : Base K W S H) (hp : H p = none) : Base K W S (upd H p o) ∧ Stp W W H (upd H p o) :=
  ⟨B.put (B.free hp).1 (B.free hp).2 (fun _ _ z => by rw [hp] at z; cases z), .new_ W hp⟩
/-- an object becomes known -/
theorem Base.know {K : PySem.W.Frag} {W : Wd} {S : Sh} {H : Hp} {p : Addr} {o : HO} (B : Base K W S H) (hp : H p = some o) (ht : W.T p = none) (hm : p ∉ W.m) :
    Base K { W with T := fun b => if b = p then some o else W.T b } S H ∧ Le W { W with T := fun b => if b = p then some o else W.T b } := by
  have le : Le W { W with T := fun b => if b = p then some o else W.T b } := ⟨fun _ _ h => h, fun a u h => by
    show (if a = p then some o else W.T a) = some u
    rw [if_neg (fun z => by rw [z, ht] at h; cases h)]
    exact h, rfl⟩
  refine ⟨⟨fun a u h => ?_, B.len, fun i ds h => ?_, B.nod, fun a h => ?_, B.sa⟩, le⟩
  · have h' : (if a = p then some o else W.T a) = some u := h
    by_cases e : a = p
    · rw [if_pos e] at h'
      rw [e]
      exact .inl (hp.trans h')
    · rw [if_neg e] at h'
      exact B.fro a u h'
  · obtain ⟨a, vs, h1, h2, h3⟩ := B.sh i ds h
    exact ⟨a, vs, h1, h2, h3.mono le⟩
  · show (if a = p then some o else W.T a) = none
    rw [if_neg (fun z => hm (by rw [← z]; exact h))]
    exact B.apart a h

abbrev DN := Env' → Sh → Option (List D × Sh)
structure Fresh (W' : Wd) (H H' : Hp) (p : Addr) (ds : List D) (vs : List V) : Prop where
  at_ : H' p = some (.lst vs)
  rep : Reps W' ds vs
  t : W'.T p = none
  m : p ∉ W'.m
  new : H p = none
def liftN (K : PySem.W.Frag) (d : DN) : TE := fun σ H Q => ∃ W ρ S ds S', Rel K W ρ S σ H ∧ d ρ S = some (ds, S') ∧ ∀ W' p vs H', Stp W W' H H' → Rel K W' ρ S' σ H' → Fresh W' H H' p ds vs → Q (.ref p) H'
abbrev PN (X : Cx) (e : Expr) (d : DN) : Prop := PE X e (liftN X.K d)
def dFz (d : DN) : DE := fun ρ S => (d ρ S).map fun p => (.lst p.1, p.2)
section
variable {X : Cx} {a b c e : Expr} {es : List Expr} {da db dc : DE} {dt dt' dt2 : DT} {dl : DA} {dn : DN} {pos : Pos}
theorem liftN_of_fz {K : PySem.W.Frag} {σ : L2.St} {H : Hp} {Q : VK} (h : liftE K (dFz dn) σ H Q) : liftN K dn σ H Q := by
  obtain ⟨W, ρ, S, r, S', R, hd, k⟩ := h
  obtain ⟨⟨ds, S1⟩, e1, hd⟩ := mapS hd
  cases hd
  refine ⟨W, ρ, S, ds, S1, R, e1, fun W' p vs H' s R' f => ?_⟩
  obtain ⟨B2, l2⟩ := R'.base.know f.at_ f.t f.m
  refine k _ (.ref p) H' ⟨s.le.trans l2, s.keep, s.new, s.ex, fun b o h => ?_⟩ ⟨B2, R'.env.mono l2⟩ ⟨p, vs, rfl, if_pos rfl, f.rep.mono l2⟩
  have h' : (if b = p then some (HO.lst vs) else W'.T b) = some o := h
  by_cases e : b = p
  · exact .inr (by rw [e]; exact f.new)
  · rw [if_neg e] at h'
    exact s.newT b o h'
theorem PN.fz (h : PN X e dn) : PE' X e (dFz dn) := PE.imp h fun σ H Q => liftN_of_fz
def nLst (dl : DA) : DN := fun ρ S => (dl ρ S).bind fun p => if p.1.length ≤ sizeLine then some p else none
theorem dn_lst (h : PA' X es dl) : PN X (.List es pos) (nLst dl) := PE.imp (pe_lst h) fun σ H Q => by
  rintro ⟨W, ρ, S, r, S', R, hd, k⟩
  obtain ⟨⟨x, S1⟩, e1, hd⟩ := bindS hd
  simp only [Option.ite_none_right_eq_some] at hd
  obtain ⟨hl, hd⟩ := hd
  cases hd
  refine ⟨W, ρ, S, _, _, R, e1, fun W1 vs H1 s1 R1 r1 => ⟨by rw [r1.length]; exact hl, fun p hp => ?_⟩⟩
  obtain ⟨B', s'⟩ := R1.base.alloc (.lst vs) hp
  refine k W1 p vs _ (s1.trans s') ⟨B', R1.env⟩ ⟨upd_same, r1, (R1.base.free hp).1, (R1.base.free hp).2, ?_⟩
  cases q : H p with
  | none => rfl
  | some o =>
    obtain ⟨o', z⟩ := s1.ex p o q
    rw [hp] at z; cases z

/-! ### what is walked -/
def Walk (K : PySem.W.Frag) (W : Wd) (J : It) (ds : List D) : Prop := ∀ (i : Nat) W' S' H', Le W W' → Base K W' S' H' →
  (∀ d, ds[i]? = some d → J.go i H' ∧ ∀ x H3, J.yld i H' x H3 → ∃ W3, Stp W' W3 H' H3 ∧ Base K W3 S' H3 ∧ Rep W3 d x) ∧ (ds[i]? = none → J.stop i H')
def liftI (K : PySem.W.Frag) (d : DN) : TI := fun σ H R => ∃ W ρ S ds S', Rel K W ρ S σ H ∧ d ρ S = some (ds, S') ∧ ∀ W' H' J, Stp W W' H H' → Rel K W' ρ S' σ H' → Walk K W' J ds → R J H'
abbrev PI' (X : Cx) (tg iter : Expr) (d : DN) : Prop := PI X tg iter (liftI X.K d)
/-- the items of a list, a tuple, a text -/
def itemsD : D → Option (List D)
  | .str x => some (x.cps.toList.map fun c => .str ⟨#[c]⟩)
  | d => seqD d
def iSeq (d : DE) : DN := fun ρ S => (d ρ S).bind fun p => (itemsD p.1).map fun ds => (ds, p.2)
theorem walk_lst {K : PySem.W.Frag} {W : Wd} {a : Addr} {ds : List D} {vs : List V} (h : ∀ W' S' H', Le W W' → Base K W' S' H' → SqL K H' a vs) (r : Reps W ds vs) : Walk K W (Itl K a) ds := fun i W' S' H' l B => by
  have hs := h W' S' H' l B
  refine ⟨fun d hd => ?_, fun hd => ?_⟩
  · obtain ⟨v, h1, h2⟩ := r.get hd
    refine ⟨⟨vs, v, hs, h1⟩, fun x H3 y => ?_⟩
    obtain ⟨rfl, y⟩ := y
    have := y vs hs
    rw [h1] at this
    cases this
    exact ⟨W', .refl _ _, B, h2.mono l⟩
  · refine ⟨vs, hs, ?_⟩
    rw [r.length]
    exact List.getElem?_eq_none_iff.mp hd
theorem walk_tup {K : PySem.W.Frag} {W : Wd} {a : Addr} {ds : List D} {vs : List V} (h : ∀ W' S' H', Le W W' → Base K W' S' H' → SqT K H' a vs) (r : Reps W ds vs) : Walk K W (Itt K a) ds := fun i W' S' H' l B => by
  have hs := h W' S' H' l B
  refine ⟨fun d hd => ?_, fun hd => ?_⟩
  · obtain ⟨v, h1, h2⟩ := r.get hd
    refine ⟨⟨vs, v, hs, h1⟩, fun x H3 y => ?_⟩
    obtain ⟨rfl, y⟩ := y
    have := y vs hs
    rw [h1] at this
    cases this
    exact ⟨W', .refl _ _, B, h2.mono l⟩
  · refine ⟨vs, hs, ?_⟩
    rw [r.length]
    exact List.getElem?_eq_none_iff.mp hd
theorem dpi_seq {tg : Expr} (he : PE' X e da) : PI' X tg e (iSeq da) := ⟨fun pins s σ H R I h => by
  obtain ⟨W, ρ, S, ds, S', R', hd, k⟩ := h
  obtain ⟨⟨r, S1⟩, e1, hd⟩ := bindS hd
  obtain ⟨ds', e2, hd⟩ := mapS hd
  cases hd
  cases r with
  | str x =>
    cases e2
    refine (pi_str he).run pins s σ H R I ⟨W, ρ, S, _, _, R', e1, fun W1 v H1 s1 R1 r1 => ⟨x, r1, k W1 H1 _ s1 R1 fun i W' S' H' l B => ?_⟩⟩
    refine ⟨fun d hd => ?_, fun hd => ?_⟩
    · rw [List.getElem?_map] at hd
      obtain ⟨c, hc, rfl⟩ := mapS hd
      have hc' : x.cps[i]? = some c := by simpa using hc
      refine ⟨(Array.getElem?_eq_some_iff.mp hc').1, fun y H3 q => ?_⟩
      obtain ⟨rfl, c', h1, rfl⟩ := q
      rw [hc'] at h1
      cases h1
      exact ⟨W', .refl _ _, B, rfl⟩
    · have : (x.cps.toList.map fun c => D.str ⟨#[c]⟩).length ≤ i := List.getElem?_eq_none_iff.mp hd
      show x.cps.size ≤ i
      simpa using this
  | lst xs =>
    cases e2
    refine (pi_list he).run pins s σ H R I ⟨W, ρ, S, _, _, R', e1, fun W1 v H1 s1 R1 r1 => ?_⟩
    obtain ⟨a, vs, rfl, t, q⟩ := r1
    exact ⟨a, rfl, ⟨vs, SqL.of (R1.base.lst t)⟩, k W1 H1 _ s1 R1 (walk_lst (fun W' S' H' l B => SqL.of (B.lst (l.T _ _ t))) q)⟩
  | rol xs =>
    cases e2
    refine (pi_list he).run pins s σ H R I ⟨W, ρ, S, _, _, R', e1, fun W1 v H1 s1 R1 r1 => ?_⟩
    obtain ⟨a, vs, rfl, t, q⟩ := r1
    exact ⟨a, rfl, ⟨vs, (R1.base.sa a vs t).seq⟩, k W1 H1 _ s1 R1 (walk_lst (fun W' S' H' l B => (B.sa a vs (l.sa.trans t)).seq) q)⟩
  | tup xs =>
    cases e2
    refine (pi_tup he).run pins s σ H R I ⟨W, ρ, S, _, _, R', e1, fun W1 v H1 s1 R1 r1 => ?_⟩
    obtain ⟨a, vs, rfl, t, q⟩ := r1
    exact ⟨a, rfl, ⟨vs, SqT.of (R1.base.tup t)⟩, k W1 H1 _ s1 R1 (walk_tup (fun W' S' H' l B => SqT.of (B.tup (l.T _ _ t))) q)⟩
  | _ => cases e2⟩
def rngO (lo : Int) (n : Nat) : List D := (List.range n).map fun i => .int (lo + (i : Nat))
theorem rngO_get (lo : Int) (n i : Nat) : (rngO lo n)[i]? = if i < n then some (.int (lo + (i : Nat))) else none := by
  unfold rngO
  rw [List.getElem?_map]
  by_cases h : i < n
  · rw [if_pos h, List.getElem?_range h]; rfl
  · rw [if_neg h, List.getElem?_eq_none (by simpa using h)]; rfl
theorem walk_rng {K : PySem.W.Frag} {W : Wd} {lo : Int} {n : Nat} : Walk K W (Itr lo n) (rngO lo n) := fun i W' S' H' l B => by
  rw [rngO_get]
  refine ⟨fun d hd => ?_, fun hd => ?_⟩
  · by_cases h : i < n
    · rw [if_pos h] at hd
      cases hd
      refine ⟨h, fun x H3 y => ?_⟩
      obtain ⟨rfl, rfl⟩ := y
      exact ⟨W', .refl _ _, B, rfl⟩
    · rw [if_neg h] at hd; cases hd
  · by_cases h : i < n
    · rw [if_pos h] at hd; cases hd
    · exact Nat.le_of_not_lt h
def rng1O : List D → Option (List D)
  | [.int j] => if -(2 ^ 62) ≤ j ∧ j < 2 ^ 62 then some (rngO 0 j.toNat) else none
  | _ => none
def rng2O : List D → Option (List D)
  | [.int i, .int j] => if -(2 ^ 62) ≤ i ∧ i < 2 ^ 62 ∧ -(2 ^ 62) ≤ j ∧ j < 2 ^ 62 then some (rngO i (j - i).toNat) else none
  | _ => none
def iRg (g : List D → Option (List D)) (dl : DA) : DN := fun ρ S => (dl ρ S).bind fun p => (g p.1).map fun ds => (ds, p.2)
theorem rng1_inv {r ds : List D} (h : rng1O r = some ds) : ∃ j, r = [.int j] ∧ (-(2 ^ 62) ≤ j ∧ j < 2 ^ 62) ∧ ds = rngO 0 j.toNat := by
  unfold rng1O at h
  split at h
  · simp only [Option.ite_none_right_eq_some, Option.some.injEq] at h
    exact ⟨_, rfl, h.1, h.2.symm⟩
  · cases h
theorem rng2_inv {r ds : List D} (h : rng2O r = some ds) : ∃ i j, r = [.int i, .int j] ∧ (-(2 ^ 62) ≤ i ∧ i < 2 ^ 62 ∧ -(2 ^ 62) ≤ j ∧ j < 2 ^ 62) ∧ ds = rngO i (j - i).toNat := by
  unfold rng2O at h
  split at h
  · simp only [Option.ite_none_right_eq_some, Option.some.injEq] at h
    exact ⟨_, _, rfl, h.1, h.2.symm⟩
  · cases h
theorem dpi_range1 {tg : Expr} {p : Pos} (hg : Gl X "range") (hm : X.mg "range" = none) (ha : PA' X [a] dl) (hs : starEach [a] X.env = [(false, eval a X.env)] := by rfl) : PI' X tg (.Call (.Name "range" p) [a] [] pos) (iRg rng1O dl) := ⟨fun pins s σ H R I h => by
  obtain ⟨W, ρ, S, ds, S', R', hd, k⟩ := h
  obtain ⟨⟨r, S1⟩, e1, hd⟩ := bindS hd
  obtain ⟨ds', e2, hd⟩ := mapS hd
  cases hd
  obtain ⟨j, rfl, h1, rfl⟩ := rng1_inv e2
  refine (pi_range1 hg hm ha hs).run pins s σ H R I ⟨W, ρ, S, _, _, R', e1, fun W1 vs H1 s1 R1 r1 => ?_⟩
  obtain ⟨v, r, rfl, h3, h4⟩ := r1
  obtain rfl : r = [] := h4
  cases h3
  exact ⟨j, rfl, h1.1, h1.2, k W1 H1 _ s1 R1 walk_rng⟩⟩
theorem dpi_range2 {tg : Expr} {p : Pos} (hg : Gl X "range") (hm : X.mg "range" = none) (ha : PA' X [a, b] dl) (hs : starEach [a, b] X.env = [(false, eval a X.env), (false, eval b X.env)] := by rfl) (hs2 : starEach [b] X.env = [(false, eval b X.env)] := by rfl) : PI' X tg (.Call (.Name "range" p) [a, b] [] pos) (iRg rng2O dl) := ⟨fun pins s σ H R I h => by
  obtain ⟨W, ρ, S, ds, S', R', hd, k⟩ := h
  obtain ⟨⟨r, S1⟩, e1, hd⟩ := bindS hd
  obtain ⟨ds', e2, hd⟩ := mapS hd
  cases hd
  obtain ⟨i, j, rfl, h1, rfl⟩ := rng2_inv e2
  refine (pi_range2 hg hm ha hs hs2).run pins s σ H R I ⟨W, ρ, S, _, _, R', e1, fun W1 vs H1 s1 R1 r1 => ?_⟩
  obtain ⟨v, r, rfl, h3, h4⟩ := r1
  obtain ⟨v', r', rfl, h5, h6⟩ := h4
  obtain rfl : r' = [] := h6
  cases h3
  cases h5
  exact ⟨i, j, rfl, h1, k W1 H1 _ s1 R1 walk_rng⟩⟩

/-! ### targets -/
inductive Tg where
  | n (i : Nat) | t (gs : List Tg)
mutual
/-- the stores of a target, in order -/
def bindT : Tg → D → Option (List (Nat × D))
  | .n i, d => some [(i, d)]
  | .t gs, .tup ds => bindTs gs ds
  | .t _, _ => none
def bindTs : List Tg → List D → Option (List (Nat × D))
  | [], [] => some []
  | g :: gs, d :: ds => (bindT g d).bind fun u => (bindTs gs ds).map fun w => u ++ w
  | _, _ => none
end
mutual
def tgOf (K : PySem.W.Frag) : Tg → TG
  | .n i => gName i
  | .t gs => gTup K gs.length (tgsOf K gs)
def tgsOf (K : PySem.W.Frag) : List Tg → TGs
  | [] => gNil
  | g :: gs => gCons (tgOf K g) (tgsOf K gs)
end
/-- the slots with some stores -/
def putV (σ : L2.St) : List (Nat × V) → L2.St
  | [] => σ
  | (i, v) :: r => putV (σ.set i (some v)) r
theorem putV_append (u w : List (Nat × V)) : ∀ σ : L2.St, putV σ (u ++ w) = putV (putV σ u) w := by
  induction u with
  | nil => intro σ; rfl
  | cons x u ih => intro σ; obtain ⟨i, v⟩ := x; exact ih _
inductive RepU (W : Wd) : List (Nat × D) → List (Nat × V) → Prop where
  | nil : RepU W [] []
  | cons {i : Nat} {d : D} {v : V} {u : List (Nat × D)} {w : List (Nat × V)} : Rep W d v → RepU W u w → RepU W ((i, d) :: u) ((i, v) :: w)
theorem RepU.append {W : Wd} {u u' : List (Nat × D)} {w w' : List (Nat × V)} (h : RepU W u w) (h' : RepU W u' w') : RepU W (u ++ u') (w ++ w') := by
  induction h with
  | nil => exact h'
  | cons r _ ih => exact .cons r ih
mutual
theorem tg_run {K : PySem.W.Frag} {W : Wd} {S : Sh} {H : Hp} (B : Base K W S H) : ∀ (g : Tg) (d : D) (v : V) (σ : L2.St) (u : List (Nat × D)) (Q : L2.St → Hp → Prop), bindT g d = some u → Rep W d v → (∀ w, RepU W u w → Q (putV σ w) H) → tgOf K g v σ H Q
  | .n i, d, v, σ, u, Q, h, r, k => by
    cases h
    exact k [(i, v)] (.cons r .nil)
  | .t gs, d, v, σ, u, Q, h, r, k => by
    cases d with
    | tup ds =>
      obtain ⟨a, vs, rfl, t, q⟩ := r
      rw [bindT] at h
      obtain ⟨h1, h2⟩ := tgs_run B gs ds vs σ u Q h q k
      exact ⟨a, vs, rfl, SqT.of (B.tup t), by rw [q.length, h1], h2⟩
    | _ => simp [bindT] at h
theorem tgs_run {K : PySem.W.Frag} {W : Wd} {S : Sh} {H : Hp} (B : Base K W S H) : ∀ (gs : List Tg) (ds : List D) (vs : List V) (σ : L2.St) (u : List (Nat × D)) (Q : L2.St → Hp → Prop), bindTs gs ds = some u → Reps W ds vs → (∀ w, RepU W u w → Q (putV σ w) H) → ds.length = gs.length ∧ tgsOf K gs vs σ H Q
  | [], [], vs, σ, u, Q, h, r, k => by
    rw [bindTs] at h
    cases h
    obtain rfl : vs = [] := r
    exact ⟨rfl, rfl, k [] .nil⟩
  | g :: gs, d :: ds, vs, σ, u, Q, h, r, k => by
    rw [bindTs] at h
    obtain ⟨u1, h1, h⟩ := bindS h
    obtain ⟨u2, h2, rfl⟩ := mapS h
    obtain ⟨v, rr, rfl, r1, r2⟩ := r
    have z := fun (w1 : List (Nat × V)) (q1 : RepU W u1 w1) => tgs_run B gs ds rr (putV σ w1) u2 Q h2 r2 fun w2 q2 => by
      rw [← putV_append]
      exact k _ (q1.append q2)
    have len : ds.length = gs.length := (tgs_run B gs ds rr σ u2 (fun _ _ => True) h2 r2 fun _ _ => trivial).1
    exact ⟨by rw [List.length_cons, List.length_cons, len], v, rr, rfl, tg_run B g d v σ u1 _ h1 r1 fun w1 q1 => (z w1 q1).2⟩
  | [], _ :: _, _, _, _, _, h, _, _ => by simp [bindTs] at h
  | _ :: _, [], _, _, _, _, h, _, _ => by simp [bindTs] at h
end
end
end DL


/-! DL8: for, comprehensions, own lists in statements -/
namespace DL
open PySem L2 PyProof.Rows

def putD (ρ : Env') : List (Nat × D) → Env'
  | [] => ρ
  | (i, d) :: r => putD (ρ.set i (some d)) r
def putS (ρ : Env2) : List (Nat × D) → Env2
  | [] => ρ
  | (i, d) :: r => putS (ρ.set i (.val d)) r
section
variable {X : Cx} {W0 W W1 : Wd} {ρ : Env2} {S S1 : Sh} {σ : L2.St} {H H1 : Hp} {keep : List Nat}
theorem RelS.puts {u : List (Nat × D)} {w : List (Nat × V)} (q : RepU W u w) : ∀ {ρ : Env2} {σ : L2.St}, RelS X W0 W ρ S σ H → RelS X W0 W (putS ρ u) S (putV σ w) H := by
  induction q with
  | nil => intro ρ σ R; exact R
  | cons r _ ih => intro ρ σ R; exact ih (R.set _ r)
theorem EnvR.set {ρ : Env'} (R : EnvR W ρ σ) (i : Nat) {d : D} {v : V} (r : Rep W d v) : EnvR W (ρ.set i (some d)) (σ.set i (some v)) := by
  refine ⟨by simp [R.1], fun j d' h => ?_⟩
  by_cases e : i = j
  · subst e
    by_cases l : i < ρ.length
    · rw [List.getElem?_set_self l] at h
      cases h
      exact ⟨v, List.getElem?_set_self (by rw [← R.1]; exact l), r⟩
    · rw [List.getElem?_eq_none (by simpa using l)] at h; cases h
  · rw [List.getElem?_set_ne e] at h
    rw [List.getElem?_set_ne e]
    exact R.2 j d' h
theorem EnvR.unset {ρ : Env'} (R : EnvR W ρ σ) (i : Nat) : EnvR W (ρ.set i none) (σ.set i none) := by
  refine ⟨by simp [R.1], fun j d' h => ?_⟩
  by_cases e : i = j
  · subst e
    by_cases l : i < ρ.length
    · rw [List.getElem?_set_self l] at h; cases h
    · rw [List.getElem?_eq_none (by simpa using l)] at h; cases h
  · rw [List.getElem?_set_ne e] at h
    rw [List.getElem?_set_ne e]
    exact R.2 j d' h
theorem EnvR.puts {u : List (Nat × D)} {w : List (Nat × V)} (q : RepU W u w) : ∀ {ρ : Env'} {σ : L2.St}, EnvR W ρ σ → EnvR W (putD ρ u) (putV σ w) := by
  induction q with
  | nil => intro ρ σ R; exact R
  | cons r _ ih => intro ρ σ R; exact ih (R.set _ r)
def wipeD (ρ : Env') : List Nat → Env'
  | [] => ρ
  | v :: vs => (wipeD ρ vs).set v none
theorem EnvR.wipes {ρ : Env'} (R : EnvR W ρ σ) : ∀ vs : List Nat, EnvR W (wipeD ρ vs) (wipe σ vs)
  | [] => R
  | v :: vs => (EnvR.wipes R vs).unset v

/-! ### for -/
def loopF (tg : Tg) (body : DS) : List D → Env2 → Sh → Option Out
  | [], ρ, S => some (.nx ρ S)
  | d :: r, ρ, S => (bindT tg d).bind fun u => (body (putS ρ u) S).bind fun o => match o with
    | .nx ρ' S' => loopF tg body r ρ' S'
    | .ct ρ' S' => loopF tg body r ρ' S'
    | .bk ρ' S' => some (.nx ρ' S')
    | o => some o
def sFor (keep : List Nat) (it : DN) (tg : Tg) (body : DS) : DS := fun ρ S => (it (fzE keep 0 ρ) S).bind fun p => loopF tg body p.1 (frz keep 0 ρ) p.2
/-- what is walked stands apart from the own lists: a range -/
def sForP (keep : List Nat) (it : DN) (tg : Tg) (body : DS) : DS := fun ρ S => (it (fzE keep 0 ρ) S).bind fun p => if chk keep p.2 then loopF tg body p.1 ρ p.2 else none
variable {iter tge : Expr} {body : List Stmt} {it : DN} {db : DS} {tg : Tg} {pos : Pos} {dl : DA} {a b : Expr}
theorem loop_run (hb : ∀ D σ H, liftS X db D σ H → ∀ (t : TS), t = liftS X db → t D σ H) {J : It} {ds : List D} {D : Ends} {o : Out} (w : Walk X.K W J ds) (R : RelS X W0 W ρ S σ H) (h : loopF tg db ds ρ S = some o) (k : After X W0 W D o) :
    ∃ V : Nat → Nat → L2.St → Hp → Prop, (∃ m, V 0 m σ H) ∧ ∀ i m σ H, V i m σ H →
      (J.stop i H ∧ D.nx σ H) ∨ (J.go i H ∧ ∃ N : L2.St → Hp → Prop, (∀ σ' H', N σ' H' → ∃ m', m' < m ∧ V (i + 1) m' σ' H') ∧ ∀ x H', J.yld i H x H' → tgOf X.K tg x σ H' fun σ2 H2 => liftS X db { D with nx := N, ct := N, bk := D.nx } σ2 H2) := by
  refine ⟨fun i m σ H => m = ds.length - i ∧ i ≤ ds.length ∧ ∃ W' ρ' S', Le W W' ∧ RelS X W0 W' ρ' S' σ H ∧ loopF tg db (ds.drop i) ρ' S' = some o, ⟨ds.length, by simp, Nat.zero_le _, W, ρ, S, .refl _, R, by simpa using h⟩, ?_⟩
  rintro i m σ H ⟨rfl, hi, W', ρ', S', l, R', h'⟩
  obtain ⟨w1, w2⟩ := w i W' S' H l R'.base
  by_cases hlt : i < ds.length
  · have hd : ds[i]? = some ds[i] := List.getElem?_eq_getElem hlt
    obtain ⟨g, y⟩ := w1 _ hd
    rw [List.drop_eq_getElem_cons hlt, loopF] at h'
    obtain ⟨u, h1, h'⟩ := bindS h'
    obtain ⟨o1, h2, h'⟩ := bindS h'
    refine .inr ⟨g, fun σ' H' => ∃ W' ρ' S', Le W W' ∧ RelS X W0 W' ρ' S' σ' H' ∧ loopF tg db (ds.drop (i + 1)) ρ' S' = some o, fun σ' H' q => ⟨ds.length - (i + 1), by omega, rfl, hlt, q⟩, fun x H' hy => ?_⟩
    obtain ⟨W3, s3, B3, r3⟩ := y x H' hy
    have R3 := R'.step s3 B3
    refine tg_run B3 tg _ x σ u _ h1 r3 fun w hw => ?_
    refine ⟨W0, W3, putS ρ' u, S', o1, RelS.puts hw R3, h2, ?_⟩
    have l3 : Le W W3 := l.trans s3.le
    cases o1 with
    | nx ρ4 S4 => exact fun W4 σ4 H4 l4 R4 => ⟨W4, ρ4, S4, l3.trans l4, R4, h'⟩
    | ct ρ4 S4 => exact fun W4 σ4 H4 l4 R4 => ⟨W4, ρ4, S4, l3.trans l4, R4, h'⟩
    | bk ρ4 S4 =>
      cases h'
      exact fun W4 σ4 H4 l4 R4 => k W4 σ4 H4 (l3.trans l4) R4
    | rt r S4 =>
      cases h'
      exact k
    | ro r S4 =>
      cases h'
      exact k
  · have e : i = ds.length := by omega
    subst e
    rw [List.drop_length, loopF] at h'
    cases h'
    exact .inl ⟨w2 (by simp), k W' σ H l R'⟩
theorem dps_for (keep : List Nat) (hp : PassesOwn (model X.prog X.w) X.A X.env X.xe) (hc : X.calm = true) (hi : PI' X tge iter it) (hg : PG X tge (tgOf X.K tg)) (hb : PSs' X body db) (hs : ∀ x, foldedSetIterable iter X.env x = pure x := by intro _; rfl) :
    PS' X (.For tge iter body [] pos) (sFor keep it tg db) := PS.imp (ps_for hp hc hi hg hb hs) fun D σ H => by
  rintro ⟨W0, W, ρ, S, o, R, h, k⟩
  obtain ⟨⟨ds, S1⟩, e1, h⟩ := bindS h
  refine ⟨_, _, S, ds, S1, wF_rel keep R, e1, fun W1 H1 J s R1 w => ?_⟩
  have R2 := (wF_relS keep R).step s R1.base
  exact loop_run (fun _ _ _ h t e => by rw [e]; exact h) w R2 h (k.le ((wF_le keep R).trans s.le))
theorem dps_forR1 (keep : List Nat) {p : Pos} (hp : PassesOwn (model X.prog X.w) X.A X.env X.xe) (hc : X.calm = true) (hg : Gl X "range") (hm : X.mg "range" = none) (ha : PA' X [a] dl) (htg : PG X tge (tgOf X.K tg)) (hb : PSs' X body db)
    (hs : ∀ x, foldedSetIterable (.Call (.Name "range" p) [a] [] pos) X.env x = pure x := by intro _; rfl) (hst : starEach [a] X.env = [(false, eval a X.env)] := by rfl) :
    PS' X (.For tge (.Call (.Name "range" p) [a] [] pos) body [] pos) (sForP keep (iRg rng1O dl) tg db) := PS.imp (ps_for hp hc (pi_range1 hg hm ha hst) htg hb hs) fun D σ H => by
  rintro ⟨W0, W, ρ, S, o, R, h, k⟩
  obtain ⟨⟨ds, S1⟩, e1, h⟩ := bindS h
  obtain ⟨⟨r, S2⟩, e2, e1⟩ := bindS e1
  obtain ⟨ds', e3, e1⟩ := mapS e1
  cases e1
  simp only [Option.ite_none_right_eq_some] at h
  obtain ⟨hS, h⟩ := h
  obtain ⟨j, rfl, h1, rfl⟩ := rng1_inv e3
  refine evAP R e2 hS fun W1 vs H1 l R1 r1 => ?_
  obtain ⟨v, r, rfl, h3, h4⟩ := r1 rfl
  obtain rfl : r = [] := h4
  cases h3
  exact ⟨j, rfl, h1.1, h1.2, loop_run (fun _ _ _ h t e => by rw [e]; exact h) walk_rng R1 h (k.le l)⟩
end
end DL


/-! DL9: comprehensions, stores of own lists, functions -/
namespace DL
open PySem L2 PyProof.Rows

section
variable {X : Cx} {W0 W W1 : Wd} {S S1 : Sh} {σ : L2.St} {H H1 : Hp} {keep : List Nat} {dl : DA} {a b e : Expr} {es : List Expr} {pos : Pos} {da : DE} {dn it : DN} {dt : DT} {tg : Tg}
/-! ### [e for x in xs if t] -/
def loopC (tg : Tg) (tt : DT) (el : DE) (ρ : Env') : List D → List D → Sh → Option (List D × Sh)
  | [], acc, S => some (acc, S)
  | d :: r, acc, S => (bindT tg d).bind fun u => (tt (putD ρ u) S).bind fun p => if p.1 then (el (putD ρ u) p.2).bind fun q => if acc.length < sizeLine then loopC tg tt el ρ r (acc ++ [q.1]) q.2 else none else loopC tg tt el ρ r acc p.2
def nComp (it : DN) (tg : Tg) (vs : List Nat) (tt : DT) (el : DE) : DN := fun ρ S => (it ρ S).bind fun p => loopC tg tt el (wipeD ρ vs) p.1 [] p.2
def dtYes : DT := fun _ S => some (true, S)
theorem wipe_put {ks : List Nat} : ∀ {w : List (Nat × V)} {σ : L2.St}, (∀ p, p ∈ w → p.1 ∈ ks) → wipe (putV σ w) ks = wipe σ ks := by
  have one : ∀ (i : Nat) (v : V) (σ : L2.St), i ∈ ks → wipe (σ.set i (some v)) ks = wipe σ ks := by
    intro i v σ hi
    induction ks generalizing σ with
    | nil => cases hi
    | cons k ks ih =>
      show (wipe (σ.set i (some v)) ks).set k none = (wipe σ ks).set k none
      by_cases hk : i ∈ ks
      · rw [ih σ hk]
      · have e : i = k := by
          rcases List.mem_cons.mp hi with e | e
          · exact e
          · exact absurd e hk
        subst e
        have com : ∀ (ks : List Nat) (σ : L2.St), i ∉ ks → wipe (σ.set i (some v)) ks = (wipe σ ks).set i (some v) := by
          intro ks
          induction ks with
          | nil => intro σ _; rfl
          | cons k ks ih =>
            intro σ h
            show (wipe (σ.set i (some v)) ks).set k none = ((wipe σ ks).set k none).set i (some v)
            rw [ih σ (fun z => h (List.mem_cons_of_mem _ z)), List.set_comm]
            intro z
            exact h (by rw [z]; exact List.mem_cons_self)
        rw [com ks σ hk, List.set_set]
  intro w
  induction w with
  | nil => intro σ _; rfl
  | cons x w ih =>
    intro σ h
    obtain ⟨i, v⟩ := x
    show wipe (putV (σ.set i (some v)) w) ks = wipe σ ks
    rw [ih fun p hp => h p (List.mem_cons_of_mem _ hp)]
    exact one i v σ (h (i, v) List.mem_cons_self)
theorem wipe_wipe (ks : List Nat) : ∀ σ : L2.St, wipe (wipe σ ks) ks = wipe σ ks := by
  have one : ∀ (ks : List Nat) (k : Nat) (σ : L2.St), wipe (σ.set k none) ks = (wipe σ ks).set k none := by
    intro ks
    induction ks with
    | nil => intro k σ; rfl
    | cons j ks ih =>
      intro k σ
      show (wipe (σ.set k none) ks).set j none = ((wipe σ ks).set j none).set k none
      rw [ih k σ]
      by_cases e : k = j
      · subst e; rfl
      · rw [List.set_comm _ _ e]
  induction ks with
  | nil => intro σ; rfl
  | cons k ks ih =>
    intro σ
    show (wipe ((wipe σ ks).set k none) ks).set k none = (wipe σ ks).set k none
    rw [one ks k, ih σ, List.set_set]
mutual
def tgSlots : Tg → List Nat
  | .n i => [i]
  | .t gs => tgsSlots gs
def tgsSlots : List Tg → List Nat
  | [] => []
  | g :: gs => tgSlots g ++ tgsSlots gs
end
mutual
theorem bindT_slots : ∀ (g : Tg) (d : D) (u : List (Nat × D)), bindT g d = some u → u.map (·.1) = tgSlots g
  | .n i, d, u, h => by cases h; rfl
  | .t gs, .tup ds, u, h => by
    rw [bindT] at h
    rw [tgSlots]
    exact bindTs_slots gs ds u h
  | .t _, .non, _, h => by simp [bindT] at h
  | .t _, .bl _, _, h => by simp [bindT] at h
  | .t _, .int _, _, h => by simp [bindT] at h
  | .t _, .str _, _, h => by simp [bindT] at h
  | .t _, .ref _, _, h => by simp [bindT] at h
  | .t _, .lst _, _, h => by simp [bindT] at h
  | .t _, .rol _, _, h => by simp [bindT] at h
  | .t _, .set _, _, h => by simp [bindT] at h
  | .t _, .dct _ _, _, h => by simp [bindT] at h
theorem bindTs_slots : ∀ (gs : List Tg) (ds : List D) (u : List (Nat × D)), bindTs gs ds = some u → u.map (·.1) = tgsSlots gs
  | [], [], u, h => by rw [bindTs] at h; cases h; rfl
  | g :: gs, d :: ds, u, h => by
    rw [bindTs] at h
    obtain ⟨u1, h1, h⟩ := bindS h
    obtain ⟨u2, h2, rfl⟩ := mapS h
    rw [List.map_append, bindT_slots g d u1 h1, bindTs_slots gs ds u2 h2, tgsSlots]
  | [], _ :: _, _, h => by simp [bindTs] at h
  | _ :: _, [], _, h => by simp [bindTs] at h
end
theorem RepU.slots {u : List (Nat × D)} {w : List (Nat × V)} (h : RepU W u w) : w.map (·.1) = u.map (·.1) := by
  induction h with
  | nil => rfl
  | cons _ _ ih => rw [List.map_cons, List.map_cons, ih]
theorem comp_of {K : PySem.W.Frag} {ks : List Nat} (hv : (tgSlots tg).all (fun i => ks.contains i) = true) {σ : L2.St} {H : Hp} {Q : VK} (h : liftN K (nComp it tg ks dt da) σ H Q) : tLc (liftI K it) (tgOf K tg) (liftT K dt) (liftE K da) ks σ H Q := by
  obtain ⟨W, ρ, S, fin, S', R, hd, k⟩ := h
  obtain ⟨⟨ds, S1⟩, e1, hd⟩ := bindS hd
  refine ⟨W, ρ, S, ds, S1, R, e1, fun W1 H1 J s1 R1 w D hD => ?_⟩
  have hD0 : H D = none := by
    cases q : H D with
    | none => rfl
    | some o =>
      obtain ⟨o', z⟩ := s1.ex D o q
      rw [hD] at z; cases z
  obtain ⟨BD, sD⟩ := R1.base.alloc (.lst []) hD
  obtain ⟨f1, f2⟩ := R1.base.free hD
  refine ⟨fun i m H' => m = ds.length - i ∧ i ≤ ds.length ∧ ∃ W' S2 acc accD, Stp W W' H H' ∧ Le W1 W' ∧ Base K W' S2 H' ∧ H' D = some (.lst acc) ∧ Reps W' accD acc ∧ W'.T D = none ∧ D ∉ W'.m ∧ loopC tg dt da (wipeD ρ ks) (ds.drop i) accD S2 = some (fin, S'),
    ⟨ds.length, by simp, Nat.zero_le _, W1, S1, [], [], s1.trans sD, .refl _, BD, upd_same, rfl, f1, f2, by simpa using hd⟩, ?_⟩
  rintro i m H' ⟨rfl, hi', W', S2, acc, accD, s', l', B', hacc, racc, t', m', hd'⟩
  obtain ⟨w1, w2⟩ := w i W' S2 H' l' B'
  by_cases hlt : i < ds.length
  · obtain ⟨g, y⟩ := w1 _ (List.getElem?_eq_getElem hlt)
    rw [List.drop_eq_getElem_cons hlt, loopC] at hd'
    obtain ⟨u, h1, hd'⟩ := bindS hd'
    obtain ⟨⟨tb, S3⟩, h2, hd'⟩ := bindS hd'
    refine .inr ⟨g, fun H4 => ∃ W4 S4 acc4 accD4, Stp W W4 H H4 ∧ Le W1 W4 ∧ Base K W4 S4 H4 ∧ H4 D = some (.lst acc4) ∧ Reps W4 accD4 acc4 ∧ W4.T D = none ∧ D ∉ W4.m ∧ loopC tg dt da (wipeD ρ ks) (ds.drop (i + 1)) accD4 S4 = some (fin, S'), fun H4 q => ⟨ds.length - (i + 1), by omega, rfl, hlt, q⟩, fun x H3 hy => ?_⟩
    obtain ⟨W3, s3, B3, r3⟩ := y x H3 hy
    -- the list made so far stands through a step
    have stay : ∀ {Wa Wb : Wd} {Ha Hb : Hp}, Ha D = some (.lst acc) → Wa.T D = none → D ∉ Wa.m → Stp Wa Wb Ha Hb → Hb D = some (.lst acc) ∧ Wb.T D = none ∧ D ∉ Wb.m := fun {Wa Wb Ha Hb} q1 q2 q3 q4 => by
      refine ⟨q4.keep D _ q1 q3, ?_, fun z => ?_⟩
      · cases q : Wb.T D with
        | none => rfl
        | some o =>
          rcases q4.newT D o q with z | z
          · rw [q2] at z; cases z
          · rw [q1] at z; cases z
      · rcases q4.new D z with z | z
        · exact q3 z
        · rw [q1] at z; cases z
    obtain ⟨a3, t3, m3⟩ := stay hacc t' m' s3
    refine tg_run B3 tg _ x _ u _ h1 r3 fun wv hw => ?_
    refine ⟨(wipe_put fun p hp => ?_).trans (wipe_wipe _ σ), ?_⟩
    · have : p.1 ∈ tgSlots tg := by
        rw [← bindT_slots tg _ u h1, ← hw.slots]
        exact List.mem_map_of_mem hp
      have := List.all_eq_true.mp hv _ this
      simpa using this
    have E3 : EnvR W3 (putD (wipeD ρ ks) u) (putV (wipe σ ks) wv) := EnvR.puts hw ((R1.env.mono (l'.trans s3.le)).wipes _)
    refine ⟨W3, _, S2, tb, S3, ⟨B3, E3⟩, h2, fun W4 H4 s4 R4 => ?_⟩
    obtain ⟨a4, t4, m4⟩ := stay a3 t3 m3 s4
    have st4 := (s'.trans s3).trans s4
    have l4 := (l'.trans s3.le).trans s4.le
    cases tb with
    | false =>
      rw [if_neg Bool.false_ne_true]
      simp only [Bool.false_eq_true, if_false] at hd'
      exact ⟨W4, S3, acc, accD, st4, l4, R4.base, a4, racc.mono (s3.le.trans s4.le), t4, m4, hd'⟩
    | true =>
      rw [if_pos rfl]
      simp only [if_true] at hd'
      obtain ⟨⟨y5, S5⟩, h5, hd'⟩ := bindS hd'
      simp only [Option.ite_none_right_eq_some] at hd'
      obtain ⟨hsz, hd'⟩ := hd'
      refine ⟨W4, _, S3, y5, S5, R4, h5, fun W5 v5 H5 s5 R5 r5 => ?_⟩
      obtain ⟨a5, t5, m5⟩ := stay a4 t4 m4 s5
      have racc5 : Reps W5 accD acc := racc.mono ((s3.le.trans s4.le).trans s5.le)
      have st5 := st4.trans s5
      refine ⟨acc, a5, by rw [racc.length]; exact hsz, W5, S5, acc ++ [v5], accD ++ [y5], ⟨st5.le, fun b o h n => ?_, st5.new, fun b o h => ?_, st5.newT⟩, l4.trans s5.le, R5.base.put t5 m5 (fun x ys z => by rw [a5] at z; cases z), upd_same, racc5.append (Reps.one r5), t5, m5, hd'⟩
      · have ne : b ≠ D := fun e => by rw [e, hD0] at h; cases h
        rw [upd_ne ne]
        exact st5.keep b o h n
      · have ne : b ≠ D := fun e => by rw [e, hD0] at h; cases h
        rw [upd_ne ne]
        exact st5.ex b o h
  · have e : i = ds.length := by omega
    subst e
    rw [List.drop_length, loopC] at hd'
    cases hd'
    exact .inl ⟨w2 (by simp), k W' D acc H' s' ⟨B', R1.env.mono l'⟩ ⟨hacc, racc, t', m', hD0⟩⟩

theorem dn_comp {elt tge iter : Expr} {ifs : List Expr} {scope : Scope} {own : List (Str × Nat)} (hc : X.calm = true) (hN : X.N.Nodup) (hi : PI' X tge iter it) (ok : BlkOk X.N X.env.scope scope own)
    (hg : ∀ (s : Shared) (H : Hp) (C : Addr) (cl : List (Str × Addr)) (fp : List Addr), PG (X.blk s H scope (compEnvC scope cl C X.env) fp) tge (tgOf X.K tg)) (ht : ∀ (s : Shared) (H : Hp) (C : Addr) (cl : List (Str × Addr)) (fp : List Addr), PTs (X.blk s H scope (compEnvC scope cl C X.env) fp) ifs (liftT X.K dt))
    (he : ∀ (s : Shared) (H : Hp) (C : Addr) (cl : List (Str × Addr)) (fp : List Addr), PE' (X.blk s H scope (compEnvC scope cl C X.env) fp) elt da) (hv : (tgSlots tg).all (fun i => (own.map (·.2)).contains i) = true := by rfl) (hs : ∀ x, foldedSetIterable iter X.env x = pure x := by intro _; rfl) :
    PN X (.ListComp elt [⟨tge, iter, ifs, 0⟩] scope pos) (nComp it tg (own.map (·.2)) dt da) := PE.imp (pe_lc (te := liftE X.K da) (tt := liftT X.K dt) (g := tgOf X.K tg) hc hN hi ok hg ht he hs) fun σ H Q => comp_of hv
/-- name = [..] on one line -/
theorem asg_comp {i : Nat} {y : Str} {py spos : Pos} {elt tge iter : Expr} {ifs : List Expr} {scope : Scope} {own : List (Str × Nat)} (hc : X.calm = true) (hN : X.N.Nodup) (hy : X.N[i]? = some y) (hyl : X.env.scope.names.lookup y = some .local)
    (hsw : swapsWith (.ListComp elt [⟨tge, iter, ifs, 0⟩] scope pos) (some (.Name y py)) spos.line X.env = pure true) (hi : PI' X tge iter it) (ok : BlkOk X.N X.env.scope scope own)
    (hg : ∀ (s : Shared) (H : Hp) (C : Addr) (cl : List (Str × Addr)) (fp : List Addr), PG (X.blk s H scope (compEnvC scope cl C X.env) fp) tge (tgOf X.K tg)) (ht : ∀ (s : Shared) (H : Hp) (C : Addr) (cl : List (Str × Addr)) (fp : List Addr), PTs (X.blk s H scope (compEnvC scope cl C X.env) fp) ifs (liftT X.K dt))
    (he : ∀ (s : Shared) (H : Hp) (C : Addr) (cl : List (Str × Addr)) (fp : List Addr), PE' (X.blk s H scope (compEnvC scope cl C X.env) fp) elt da) (hv : (tgSlots tg).all (fun i => (own.map (·.2)).contains i) = true := by rfl) (hs : ∀ x, foldedSetIterable iter X.env x = pure x := by intro _; rfl) :
    PS X (.Assign [.Name y py] (.ListComp elt [⟨tge, iter, ifs, 0⟩] scope pos) spos) (tAsg (liftN X.K (nComp it tg (own.map (·.2)) dt da)) (gName i)) := PS.imp (ps_setLc (te := liftE X.K da) (tt := liftT X.K dt) (g := tgOf X.K tg) hc hN hy hyl hsw hi ok hg ht he hs) fun D σ H => comp_of hv
theorem asg_fz {i : Nat} {st : Stmt} (h : PS X st (tAsg (liftN X.K dn) (gName i))) : PS X st (tAsg (liftE X.K (dFz dn)) (gName i)) := PS.imp h fun D σ H => liftN_of_fz

/-! ### own lists in statements -/
variable {ρ : Env2}
theorem evN {d : DN} {r : List D} {Q : VK} (R : RelS X W0 W ρ S σ H) (e : d (fzE keep 0 ρ) S = some (r, S1)) (k : ∀ W1 p vs H1, Le W W1 → RelS X W0 W1 (frz keep 0 ρ) S1 σ H1 → Fresh W1 H H1 p r vs → Q (.ref p) H1) : liftN X.K d σ H Q :=
  ⟨_, _, S, r, S1, wF_rel keep R, e, fun W1 p vs H1 s R1 f => k W1 p vs H1 ((wF_le keep R).trans s.le) ((wF_relS keep R).step s R1.base) f⟩
theorem RelS.fresh (R : RelS X W0 W1 ρ S1 σ H1) (R0 : RelS X W0 W ρ S σ H) {p : Addr} {ds : List D} {vs : List V} (f : Fresh W1 H H1 p ds vs) : X.H_0 p = none := by
  cases q : X.H_0 p with
  | none => rfl
  | some o =>
    obtain ⟨o', z⟩ := R0.ent.ex p o q
    rw [f.new] at z; cases z
def sSetO (keep : List Nat) (i : Nat) (d : DN) : DS := fun ρ S => (d (fzE keep 0 ρ) S).map fun p => .nx ((frz keep 0 ρ).set i (.own p.1)) p.2
theorem setO_of (keep : List Nat) {i : Nat} {st : Stmt} (h : PS X st (tAsg (liftN X.K dn) (gName i))) : PS' X st (sSetO keep i dn) := PS.imp h fun D σ H => by
  rintro ⟨W0, W, ρ, S, o, R, h, k⟩
  obtain ⟨⟨r, S1⟩, e1, h⟩ := mapS h
  cases h
  refine evN R e1 fun W1 p vs H1 l R1 f => ?_
  have hH : X.H_0 p = none := by
    cases q : X.H_0 p with
    | none => rfl
    | some o =>
      obtain ⟨o', z⟩ := R.ent.ex p o q
      rw [f.new] at z; cases z
  refine k W1 _ H1 l (R1.setOwn i f.at_ f.rep f.t f.m hH fun j es h1 h2 => ?_)
  rw [frz_get, Nat.zero_add] at h1
  obtain ⟨sl, h3, h4⟩ := mapS h1
  cases sl with
  | no => cases h4
  | val d => cases h4
  | own xs =>
    obtain ⟨a, vs', k1, k2, _⟩ := R.own j xs h3
    rw [h2] at k1
    cases k1
    rw [f.new] at k2; cases k2
theorem dps_setO (keep : List Nat) {i : Nat} {x : Str} {pos' : Pos} (hN : X.N.Nodup) (hi : X.N[i]? = some x) (hx : Loc X.env.scope x) (he : PN X e dn) (hs : swapsWith e (some (.Name x pos')) pos.line X.env = pure false := by rfl) (hf : X.fn x = true ∨ X.env.scope.names.lookup x = some .local := by first | exact .inl rfl | exact .inr rfl | assumption) :
    PS' X (.Assign [.Name x pos'] e pos) (sSetO keep i dn) := setO_of keep (ps_set hN hi hx he hs hf)
/-- xs.append(e), xs an own list -/
def appO (o : List D → D → Option (List D)) (i : Nat) (ρ : Env2) (d : D) (S : Sh) : Option Out := match ρ[i]? with
  | some (.own ds) => (o ds d).map fun ds' => .nx (ρ.set i (.own ds')) S
  | _ => none
def sMutF (o : List D → D → Option (List D)) (keep : List Nat) (i : Nat) (d : DE) : DS := fun ρ S => (d (fzE keep 0 ρ) S).bind fun p => appO o i (frz keep 0 ρ) p.1 p.2
def sMutP (o : List D → D → Option (List D)) (keep : List Nat) (i : Nat) (d : DE) : DS := fun ρ S => (d (fzE keep 0 ρ) S).bind fun p => if chk keep p.2 && (pureD p.1 || keep.isEmpty) then appO o i ρ p.1 p.2 else none
def appendO (ds : List D) (d : D) : Option (List D) := if ds.length < sizeLine then some (ds ++ [d]) else none
theorem appO_inv {o : List D → D → Option (List D)} {i : Nat} {d : D} {out : Out} (h : appO o i ρ d S = some out) : ∃ ds ds', ρ[i]? = some (.own ds) ∧ o ds d = some ds' ∧ out = .nx (ρ.set i (.own ds')) S := by
  unfold appO at h
  split at h
  · rename_i ds q
    obtain ⟨ds', h1, rfl⟩ := mapS h
    exact ⟨ds, ds', q, h1, rfl⟩
  · cases h
theorem app_run {En : Ends} {i : Nat} {d : D} {v x : V} {out : Out} (R : RelS X W0 W ρ S σ H) (hx : σ[i]? = some (some x)) (r : Rep W d v) (h : appO appendO i ρ d S = some out) (k : After X W0 W En out) : rAppend x [v] H (fun _ H1 => En.nx σ H1) := by
  obtain ⟨ds, ds', h1, h2, rfl⟩ := appO_inv h
  simp only [appendO, Option.ite_none_right_eq_some, Option.some.injEq] at h2
  obtain ⟨hl, rfl⟩ := h2
  obtain ⟨a, vs, k1, k2, k3, k4, k5, k6⟩ := R.own i ds h1
  rw [hx] at k1
  cases k1
  refine ⟨a, vs, v, rfl, rfl, k2, by rw [k3.length]; exact hl, k W σ _ (.refl _) (R.upd h1 hx (k3.append (Reps.one r)))⟩
theorem own_slot {i : Nat} {ds : List D} (R : RelS X W0 W ρ S σ H) (h : ρ[i]? = some (.own ds)) : ∃ a vs, σ[i]? = some (some (V.ref a)) ∧ H a = some (.lst vs) := by
  obtain ⟨a, vs, k1, k2, _⟩ := R.own i ds h
  exact ⟨a, vs, k1, k2⟩
theorem frz_own {i : Nat} {ds : List D} (h : (frz keep 0 ρ)[i]? = some (.own ds)) : ρ[i]? = some (.own ds) := by
  rw [frz_get, Nat.zero_add] at h
  obtain ⟨sl, h3, h4⟩ := mapS h
  cases sl with
  | no => cases h4
  | val d => cases h4
  | own xs =>
    cases c : keep.contains i with
    | true =>
      rw [c] at h4
      have h5 : Sl.val (.lst xs) = Sl.own ds := h4
      cases h5
    | false =>
      rw [c] at h4
      have h5 : Sl.own xs = Sl.own ds := h4
      rw [← h5]; exact h3
abbrev appTE (i : Nat) (K : PySem.W.Frag) (te : TE) : TE := tBM K "list" rAppend (tVar i) (tCons te tNil)
theorem dps_appF (keep : List Nat) {i : Nat} {o : Expr} {apos cpos : Pos} (ho : PE X (.Call (.Attribute o "append" apos) [e] [] cpos) (appTE i X.K (liftE X.K da)))
    (hs : swapsWith (.Call (.Attribute o "append" apos) [e] [] cpos) none pos.line X.env = pure false := by rfl) : PS' X (.Expr (.Call (.Attribute o "append" apos) [e] [] cpos) pos) (sMutF appendO keep i da) := PS.imp (ps_expr ho hs) fun D σ H => by
  rintro ⟨W0, W, ρ, S, o, R, h, k⟩
  obtain ⟨⟨r, S1⟩, e1, h⟩ := bindS h
  obtain ⟨ds, ds', h1, h2, h3⟩ := appO_inv h
  obtain ⟨a, vs, q1, q2⟩ := own_slot R (frz_own h1)
  refine ⟨_, q1, .inl ⟨rfl, _, SqL.of q2⟩, evF R e1 fun W1 v H1 l R1 r1 => ?_⟩
  exact app_run R1 q1 r1 h (k.le l)
theorem dps_appP (keep : List Nat) {i : Nat} {o : Expr} {apos cpos : Pos} (ho : PE X (.Call (.Attribute o "append" apos) [e] [] cpos) (appTE i X.K (liftE X.K da)))
    (hs : swapsWith (.Call (.Attribute o "append" apos) [e] [] cpos) none pos.line X.env = pure false := by rfl) : PS' X (.Expr (.Call (.Attribute o "append" apos) [e] [] cpos) pos) (sMutP appendO keep i da) := PS.imp (ps_expr ho hs) fun D σ H => by
  rintro ⟨W0, W, ρ, S, o, R, h, k⟩
  obtain ⟨⟨r, S1⟩, e1, h⟩ := bindS h
  simp only [Option.ite_none_right_eq_some, Bool.and_eq_true, Bool.or_eq_true] at h
  obtain ⟨⟨hS, hp⟩, h⟩ := h
  obtain ⟨ds, ds', h1, h2, h3⟩ := appO_inv h
  obtain ⟨a, vs, q1, q2⟩ := own_slot R h1
  refine ⟨_, q1, .inl ⟨rfl, _, SqL.of q2⟩, evP R e1 hS fun W1 v H1 l R1 r1 => ?_⟩
  exact app_run R1 q1 (r1 hp) h (k.le l)
end
end DL


/-! DL10: functions -/
namespace DL
open PySem L2 PyProof.Rows

abbrev DF := List D → Sh → Option (D × Sh)
abbrev NF := List D → Sh → Option (List D × Sh)
def envOf (n : Nat) (args : List D) : Env2 := args.map .val ++ List.replicate (n - args.length) .no
def outD : Out → Option (D × Sh)
  | .rt d S => some (d, S)
  | .nx _ S => some (.non, S)
  | .ro l S => some (.lst l, S)
  | _ => none
def outN : Out → Option (List D × Sh)
  | .ro l S => some (l, S)
  | _ => none
def fnD (np n : Nat) (body : DS) : DF := fun args S => if args.length = np then (body (envOf n args) S).bind outD else none
def fnN (np n : Nat) (body : DS) : NF := fun args S => if args.length = np then (body (envOf n args) S).bind outN else none
def spD (K : PySem.W.Frag) (np : Nat) (m : DF) : Sp := fun vs H Q _ => ∃ W S ds r S', Base K W S H ∧ Reps W ds vs ∧ ds.length = np ∧ m ds S = some (r, S') ∧ ∀ W' v H', Stp W W' H H' → Base K W' S' H' → Rep W' r v → Q v H'
def spN (K : PySem.W.Frag) (np : Nat) (m : NF) : Sp := fun vs H Q _ => ∃ W S ds r S', Base K W S H ∧ Reps W ds vs ∧ ds.length = np ∧ m ds S = some (r, S') ∧ ∀ W' p xs H', Stp W W' H H' → Base K W' S' H' → Fresh W' H H' p r xs → Q (.ref p) H'
theorem spD_len {K : PySem.W.Frag} {np : Nat} {m : DF} {vs : List V} {H : Hp} {Q : VK} {E : XK} (h : spD K np m vs H Q E) : vs.length = np := by
  obtain ⟨W, S, ds, r, S', B, q, l, _⟩ := h
  rw [q.length, l]
theorem spN_len {K : PySem.W.Frag} {np : Nat} {m : NF} {vs : List V} {H : Hp} {Q : VK} {E : XK} (h : spN K np m vs H Q E) : vs.length = np := by
  obtain ⟨W, S, ds, r, S', B, q, l, _⟩ := h
  rw [q.length, l]
section
variable {P : Program} {w : World} {K : PySem.W.Frag} {mg : Str → Option Value} {base : Heap} {x qual : Str} {params : Arguments} {body : List Stmt} {scope : Scope} {f : Addr} {fd : FuncData}
theorem rel_start {X : Cx} {W : Wd} {S : Sh} {H : Hp} {ds : List D} {vs : List V} {N : List Str} (B : Base X.K W S H) (r : Reps W ds vs) (h0 : X.H_0 = H) (hl : ds.length ≤ N.length) : RelS X W W (envOf N.length ds) S (L2.start N vs) H := by
  have lv := r.length
  refine ⟨B, by rw [h0]; exact .refl _ _, by simp [envOf, L2.start, lv], fun i d h => ?_, fun i es h => ?_, fun i j es fs a h => ?_⟩
  · unfold envOf at h
    by_cases l : i < ds.length
    · rw [List.getElem?_append_left (by simpa using l), List.getElem?_map] at h
      obtain ⟨d', h1, h2⟩ := mapS h
      cases h2
      obtain ⟨v, h3, h4⟩ := r.get h1
      refine ⟨v, ?_, h4⟩
      unfold L2.start
      rw [List.getElem?_append_left (by simpa [lv] using l), List.getElem?_map, h3]
      rfl
    · rw [List.getElem?_append_right (by simpa using l), List.getElem?_replicate] at h
      split at h <;> cases h
  · unfold envOf at h
    by_cases l : i < ds.length
    · rw [List.getElem?_append_left (by simpa using l), List.getElem?_map] at h
      obtain ⟨d', h1, h2⟩ := mapS h
      cases h2
    · rw [List.getElem?_append_right (by simpa using l), List.getElem?_replicate] at h
      split at h <;> cases h
  · unfold envOf at h
    by_cases l : i < ds.length
    · rw [List.getElem?_append_left (by simpa using l), List.getElem?_map] at h
      obtain ⟨d', h1, h2⟩ := mapS h
      cases h2
    · rw [List.getElem?_append_right (by simpa using l), List.getElem?_replicate] at h
      split at h <;> cases h
abbrev Body (P : Program) (w : World) (K : PySem.W.Frag) (mg : Str → Option Value) (base : Heap) (N : List Str) (qual : Str) (scope : Scope) (body : List Stmt) (f : Addr) (k : Nat) (ds : DS) : Prop :=
  ∀ (cdv : Value) (A : Around) (outer : List Env) (s : Shared) (H : Hp) (E : XK), Room k (A.deeper (envOfC qual scope s.heap.objs.size f cdv)) →
    PSs' (cxOf CX0 P w K mg base N qual scope f cdv A outer s H E).nox body ds
theorem FunD.okD {N ps : List Str} {k : Nat} (F : FunD K x qual params body scope [] [] f fd) (S : FnScope N ps scope) (hl : ps.length ≤ N.length) {ds : DS} (hb : Body P w K mg base N qual scope body f k ds) :
    FnOk P w K mg base CX0 (k + 1) f fd ps (spD K ps.length (fnD ps.length N.length ds)) :=
  F.ok S (fun vs H Q E h => spD_len h) fun cdv A outer s H vs Q E hr h => ⟨_, (hb cdv A outer s H E hr).nox, by
    obtain ⟨W, S1, as, r, S', B, q, l, e, k1⟩ := h
    unfold fnD at e
    rw [if_pos l] at e
    obtain ⟨o, e1, e2⟩ := bindS e
    refine ⟨W, W, _, S1, o, rel_start (X := (cxOf CX0 P w K mg base N qual scope f cdv A outer s H E).nox) B q rfl (by omega), e1, ?_⟩
    cases o with
    | rt d S2 =>
      cases e2
      exact fun W' v H' s' B' r' => k1 W' v H' s' B' r'
    | nx ρ S2 =>
      cases e2
      exact fun W' σ' H' l' R' => k1 W' .non H' R'.ent R'.base rfl
    | ro xs S2 =>
      cases e2
      intro W' a vs' H' s' B' ha ra ta ma h0
      obtain ⟨B2, l2⟩ := B'.know ha ta ma
      refine k1 _ (.ref a) H' ⟨s'.le.trans l2, s'.keep, s'.new, s'.ex, fun b o h => ?_⟩ B2 ⟨a, vs', rfl, if_pos rfl, ra.mono l2⟩
      have h' : (if b = a then some (HO.lst vs') else W'.T b) = some o := h
      by_cases e : b = a
      · exact .inr (by rw [e]; exact h0)
      · rw [if_neg e] at h'
        exact s'.newT b o h'
    | bk ρ S2 => cases e2
    | ct ρ S2 => cases e2⟩
theorem FunD.okN {N ps : List Str} {k : Nat} (F : FunD K x qual params body scope [] [] f fd) (S : FnScope N ps scope) (hl : ps.length ≤ N.length) {ds : DS} (hb : Body P w K mg base N qual scope body f k ds) :
    FnOk P w K mg base CX0 (k + 1) f fd ps (spN K ps.length (fnN ps.length N.length ds)) :=
  F.ok S (fun vs H Q E h => spN_len h) fun cdv A outer s H vs Q E hr h => ⟨_, (hb cdv A outer s H E hr).nox, by
    obtain ⟨W, S1, as, r, S', B, q, l, e, k1⟩ := h
    unfold fnN at e
    rw [if_pos l] at e
    obtain ⟨o, e1, e2⟩ := bindS e
    refine ⟨W, W, _, S1, o, rel_start (X := (cxOf CX0 P w K mg base N qual scope f cdv A outer s H E).nox) B q rfl (by omega), e1, ?_⟩
    cases o with
    | ro xs S2 =>
      cases e2
      exact fun W' a vs' H' s' B' ha ra ta ma h0 => k1 W' a vs' H' s' B' ⟨ha, ra, ta, ma, h0⟩
    | _ => cases e2⟩
end
/-! ### calls -/
def dFn (np : Nat) (m : DF) (dl : DA) : DE := fun ρ S => (dl ρ S).bind fun p => if p.1.length = np then m p.1 p.2 else none
def nFn (np : Nat) (m : NF) (dl : DA) : DN := fun ρ S => (dl ρ S).bind fun p => if p.1.length = np then m p.1 p.2 else none
section
variable {X : Cx} {a b e : Expr} {es : List Expr} {dl : DA} {pos : Pos} {k : Nat} {f : Addr} {fd : FuncData} {ps : List Str} {np : Nat} {m : DF} {mn : NF}
theorem dpe_call {x : Str} {p : Pos} (F : FnOk X.prog X.w X.K X.mg X.base CX0 k f fd ps (spD X.K np m)) (hr : Room k X.A) (hm : X.mg x = some (.ref f)) (hk : PySem.W.keepIn X.K (.ref f) = true) (hb : Binds X.K fd ps []) (ha : PA' X (e :: es) dl) (hg : Gl X x := by rfl)
    (hdb : (x == ("__debug__" : Str)) = false := by decide) (he : starEach (e :: es) X.env = (false, eval e X.env) :: starEach es X.env := by rfl) (hpl : (backTo pos (starEach es X.env)).any (·.1) = false := by rfl) :
    PE' X (.Call (.Name x p) (e :: es) [] pos) (dFn np m dl) := PE.imp (pe_call F hr hg hm hk hb .nil pass0 ha hdb he hpl) fun σ H Q => by
  rintro ⟨W, ρ, S, r, S', R, hd, k1⟩
  obtain ⟨⟨ds, S1⟩, e1, hd⟩ := bindS hd
  simp only [Option.ite_none_right_eq_some] at hd
  obtain ⟨hl, hd⟩ := hd
  refine ⟨W, ρ, S, ds, S1, R, e1, fun W1 vs H1 s1 R1 r1 => ?_⟩
  show spD X.K np m (vs ++ []) H1 Q E0
  rw [List.append_nil]
  exact ⟨W1, S1, ds, r, S', R1.base, r1, hl, hd, fun W2 v H2 s2 B2 r2 => k1 W2 v H2 (s1.trans s2) ⟨B2, R1.env.mono s2.le⟩ r2⟩
theorem dn_call {x : Str} {p : Pos} (F : FnOk X.prog X.w X.K X.mg X.base CX0 k f fd ps (spN X.K np mn)) (hr : Room k X.A) (hm : X.mg x = some (.ref f)) (hk : PySem.W.keepIn X.K (.ref f) = true) (hb : Binds X.K fd ps []) (ha : PA' X (e :: es) dl) (hg : Gl X x := by rfl)
    (hdb : (x == ("__debug__" : Str)) = false := by decide) (he : starEach (e :: es) X.env = (false, eval e X.env) :: starEach es X.env := by rfl) (hpl : (backTo pos (starEach es X.env)).any (·.1) = false := by rfl) :
    PN X (.Call (.Name x p) (e :: es) [] pos) (nFn np mn dl) := PE.imp (pe_call F hr hg hm hk hb .nil pass0 ha hdb he hpl) fun σ H Q => by
  rintro ⟨W, ρ, S, r, S', R, hd, k1⟩
  obtain ⟨⟨ds, S1⟩, e1, hd⟩ := bindS hd
  simp only [Option.ite_none_right_eq_some] at hd
  obtain ⟨hl, hd⟩ := hd
  refine ⟨W, ρ, S, ds, S1, R, e1, fun W1 vs H1 s1 R1 r1 => ?_⟩
  show spN X.K np mn (vs ++ []) H1 Q E0
  rw [List.append_nil]
  refine ⟨W1, S1, ds, r, S', R1.base, r1, hl, hd, fun W2 p xs H2 s2 B2 fr => k1 W2 p xs H2 (s1.trans s2) ⟨B2, R1.env.mono s2.le⟩ ⟨fr.at_, fr.rep, fr.t, fr.m, ?_⟩⟩
  cases q : H p with
  | none => rfl
  | some o =>
    obtain ⟨o', z⟩ := s1.ex p o q
    rw [fr.new] at z; cases z
/-! ### built-ins by name -/
theorem dpe_cb {id : String} {x : Str} {p : Pos} {g : List D → Option D} (hc : CallR X (.builtin id) (rDc X.K g)) (hm : X.mg x = none) (hv : bootBuiltins x = some (.builtin id)) (ha : PA' X (e :: es) dl) (hg : Gl X x := by rfl) (hn : x ≠ "__name__" := by decide) (hdb : (x == ("__debug__" : Str)) = false := by decide)
    (he : starEach (e :: es) X.env = (false, eval e X.env) :: starEach es X.env := by rfl) (hpl : (backTo pos (starEach es X.env)).any (·.1) = false := by rfl) : PE' X (.Call (.Name x p) (e :: es) [] pos) (dCall g dl) :=
  liftCall (fun h => pe_callB hc hg hm hv h hn hdb he hpl) ha
theorem dpe_ct {T : String} {x : Str} {p : Pos} {g : List D → Option D} (hc : CallR X (.type T) (rDc X.K g)) (hm : X.mg x = none) (hv : bootBuiltins x = some (.type T)) (ha : PA' X (e :: es) dl) (hg : Gl X x := by rfl) (hn : x ≠ "__name__" := by decide) (hdb : (x == ("__debug__" : Str)) = false := by decide)
    (he : starEach (e :: es) X.env = (false, eval e X.env) :: starEach es X.env := by rfl) (hpl : (backTo pos (starEach es X.env)).any (·.1) = false := by rfl) : PE' X (.Call (.Name x p) (e :: es) [] pos) (dCall g dl) :=
  liftCall (fun h => pe_callTy hc hg hm hv h hn hdb he hpl) ha
def lenD : D → Option D
  | .str x => if x.length ≤ sizeLine then some (.int x.length) else none
  | .lst ds => some (.int ds.length)
  | .rol ds => some (.int ds.length)
  | .tup ds => some (.int ds.length)
  | _ => none
def lenO : List D → Option D
  | [d] => lenD d
  | _ => none
def absO : List D → Option D
  | [.int i] => some (.int (if i < 0 then -i else i))
  | _ => none
def intO : List D → Option D
  | [.int i] => some (.int i)
  | [.bl k] => some (.int (if k then 1 else 0))
  | _ => none
def gcdO : List D → Option D
  | [.int a, .int b] => some (.int ((Nat.gcd a.natAbs b.natAbs : Nat) : Int))
  | _ => none
def tupleO : List D → Option D
  | [d] => (seqD d).map .tup
  | _ => none
theorem reps1 {W : Wd} {d : D} {vs : List V} (h : Reps W [d] vs) : ∃ v, vs = [v] ∧ Rep W d v := by
  obtain ⟨v, r, rfl, h1, h2⟩ := h
  obtain rfl : r = [] := h2
  exact ⟨v, rfl, h1⟩
theorem reps2 {W : Wd} {d d' : D} {vs : List V} (h : Reps W [d, d'] vs) : ∃ v v', vs = [v, v'] ∧ Rep W d v ∧ Rep W d' v' := by
  obtain ⟨v, r, rfl, h1, h2⟩ := h
  obtain ⟨v', rfl, h3⟩ := reps1 h2
  exact ⟨v, v', rfl, h1, h3⟩
theorem cd_len : CallR X (.builtin "len") (rDc X.K lenO) := by
  intro pins s σ H xs us Q I r ⟨W, S, ds, z, B, q, hd, k⟩
  match ds, q, hd with
  | [d], q, hd =>
    obtain ⟨v, rfl, rv⟩ := reps1 q
    have go : ∀ xs', seqD d = some xs' → z = .int xs'.length → wpAny (model X.prog X.w) X.A (call (.builtin "len") us) (EP X pins σ Q) X.xe s := fun xs' h1 e => by
      subst e
      obtain ⟨a, vs, rfl, h3, h4⟩ := B.seq rv h1
      refine call_len pins s σ H _ us Q I r ⟨_, xs'.length, rfl, ?_, k W _ H (.refl _ _) B rfl⟩
      rcases h3 with h3 | h3
      · exact .inl ⟨vs, h3, h4.length.symm⟩
      · exact .inr ⟨vs, h3, h4.length.symm⟩
    cases d with
    | str t =>
      simp only [lenO, lenD, Option.ite_none_right_eq_some, Option.some.injEq] at hd
      obtain ⟨h1, rfl⟩ := hd
      cases rv
      exact call_len pins s σ H _ us Q I r ⟨_, _, rfl, ⟨h1, rfl⟩, k W _ H (.refl _ _) B rfl⟩
    | lst ds => cases hd; exact go ds rfl rfl
    | rol ds => cases hd; exact go ds rfl rfl
    | tup ds => cases hd; exact go ds rfl rfl
    | _ => cases hd
  | [], _, hd => cases hd
  | _ :: _ :: _, _, hd => simp [lenO] at hd
theorem cd_abs : CallR X (.builtin "abs") (rDc X.K absO) := by
  intro pins s σ H xs us Q I r ⟨W, S, ds, z, B, q, hd, k⟩
  unfold absO at hd
  split at hd
  · cases hd
    obtain ⟨v, rfl, rv⟩ := reps1 q
    cases rv
    exact call_abs pins s σ H _ us Q I r ⟨_, rfl, k W _ H (.refl _ _) B rfl⟩
  · cases hd
theorem cd_int : CallR X (.type "int") (rDc X.K intO) := by
  intro pins s σ H xs us Q I r ⟨W, S, ds, z, B, q, hd, k⟩
  unfold intO at hd
  split at hd
  · cases hd
    obtain ⟨v, rfl, rv⟩ := reps1 q
    cases rv
    exact call_int1 pins s σ H _ us Q I r (.inl ⟨_, rfl, k W _ H (.refl _ _) B rfl⟩)
  · cases hd
    obtain ⟨v, rfl, rv⟩ := reps1 q
    cases rv
    exact call_int1 pins s σ H _ us Q I r (.inr ⟨_, rfl, k W _ H (.refl _ _) B rfl⟩)
  · cases hd
theorem cd_gcd : CallR X (.builtin "math.gcd") (rDc X.K gcdO) := by
  intro pins s σ H xs us Q I r ⟨W, S, ds, z, B, q, hd, k⟩
  unfold gcdO at hd
  split at hd
  · cases hd
    obtain ⟨v, v', rfl, rv, rv'⟩ := reps2 q
    cases rv
    cases rv'
    exact cr_gcd pins s σ H _ us Q I r ⟨_, _, rfl, k W _ H (.refl _ _) B rfl⟩
  · cases hd
theorem dpe_gcd {x : Str} {p : Pos} (hm : X.mg x = some (.builtin "math.gcd")) (ha : PA' X (e :: es) dl) (hg : Gl X x := by rfl) (hdb : (x == ("__debug__" : Str)) = false := by decide)
    (he : starEach (e :: es) X.env = (false, eval e X.env) :: starEach es X.env := by rfl) (hpl : (backTo pos (starEach es X.env)).any (·.1) = false := by rfl) : PE' X (.Call (.Name x p) (e :: es) [] pos) (dCall gcdO dl) :=
  liftCall (fun h => pe_callBfun cd_gcd hg hm h hdb he hpl) ha
theorem cd_tuple : CallR X (.type "tuple") (rDc X.K tupleO) := by
  intro pins s σ H xs us Q I r ⟨W, S, ds, z, B, q, hd, k⟩
  match ds, q, hd with
  | [d], q, hd =>
    obtain ⟨xs', h1, rfl⟩ := mapS hd
    obtain ⟨v, rfl, rv⟩ := reps1 q
    by_cases ht : ∃ ys, d = .tup ys
    · obtain ⟨ys, rfl⟩ := ht
      cases h1
      obtain ⟨a, vs, rfl, t, h4⟩ := rv
      exact call_tuple_of pins s σ H _ us Q I r ⟨a, vs, rfl, .inr ⟨SqT.of (B.tup t), k W _ H (.refl _ _) B ⟨a, vs, rfl, t, h4⟩⟩⟩
    · have hl : ∃ a vs, v = .ref a ∧ SqL X.K H a vs ∧ Reps W xs' vs := by
        cases d with
        | lst ys =>
          cases h1
          obtain ⟨a, vs, h1, h2, h3⟩ := rv
          exact ⟨a, vs, h1, SqL.of (B.lst h2), h3⟩
        | rol ys =>
          cases h1
          obtain ⟨a, vs, h1, h2, h3⟩ := rv
          exact ⟨a, vs, h1, (B.sa a vs h2).seq, h3⟩
        | tup ys => exact absurd ⟨ys, rfl⟩ ht
        | _ => cases h1
      obtain ⟨a, vs, rfl, h3, h4⟩ := hl
      refine call_tuple_of pins s σ H _ us Q I r ⟨a, vs, rfl, .inl ⟨h3, fun p hp => ?_⟩⟩
      obtain ⟨W', s', B', t', _⟩ := B.laid (o := .tup vs) hp (fun _ _ z => nomatch z)
      exact k W' _ _ s' B' ⟨p, vs, rfl, t', h4.mono s'.le⟩
  | [], _, hd => cases hd
  | _ :: _ :: _, _, hd => simp [tupleO] at hd
/-- list(xs): a new list -/
def nList (dl : DE) : DN := fun ρ S => (dl ρ S).bind fun p => (seqD p.1).map fun ds => (ds, p.2)
theorem Stp.back {W W' : Wd} {H H' : Hp} {p : Addr} (s : Stp W W' H H') (h : H' p = none) : H p = none := by
  cases q : H p with
  | none => rfl
  | some o =>
    obtain ⟨o', z⟩ := s.ex p o q
    rw [h] at z; cases z
theorem dn_list {p : Pos} {da : DE} (hm : X.mg "list" = none) (ha : PE' X e da) (hg : Gl X "list" := by rfl)
    (he : starEach [e] X.env = (false, eval e X.env) :: starEach [] X.env := by rfl) (hpl : (backTo pos (starEach [] X.env)).any (·.1) = false := by rfl) : PN X (.Call (.Name "list" p) [e] [] pos) (nList da) :=
  PE.imp (pe_callTy call_list_of hg hm (by decide +kernel) (pa_cons ha pa_nil he) (by decide) (by decide) he hpl) fun σ H Q => by
  rintro ⟨W, ρ, S, r, S', R, hd, k⟩
  obtain ⟨⟨d, S1⟩, e1, hd⟩ := bindS hd
  obtain ⟨ds, e2, hd⟩ := mapS hd
  cases hd
  refine ⟨W, ρ, S, d, _, R, e1, fun W1 v H1 s1 R1 r1 => ?_⟩
  obtain ⟨a, vs, rfl, h3, h4⟩ := R1.base.seq r1 e2
  refine ⟨a, vs, rfl, h3, fun l hl => ?_⟩
  obtain ⟨B', s'⟩ := R1.base.alloc (.lst vs) hl
  exact k W1 l vs _ (s1.trans s') ⟨B', R1.env⟩ ⟨upd_same, h4, (R1.base.free hl).1, (R1.base.free hl).2, s1.back hl⟩
end
end DL


/-! DL11: shared lists, stores by place, isinstance, bit_length -/
namespace DL
open PySem L2 PyProof.Rows

/-! ### shared lists -/
theorem Base.setSh {K : PySem.W.Frag} {W : Wd} {S : Sh} {H : Hp} {i : Nat} {a : Addr} {ds : List D} {vs : List V} (B : Base K W S H) (hi : i < S.length) (ha : W.m[i]? = some a) (r : Reps W ds vs) :
    Base K W (S.set i ds) (upd H a (.lst vs)) ∧ Stp W W H (upd H a (.lst vs)) := by
  have mm : a ∈ W.m := List.mem_of_getElem? ha
  obtain ⟨a', vs', k1, k2', _⟩ := B.sh i S[i] (List.getElem?_eq_getElem hi)
  rw [ha] at k1; cases k1
  have ta := B.apart a mm
  refine ⟨⟨fun b o h => ?_, by simp [B.len], fun j es h => ?_, B.nod, B.apart, fun b ws h => ?_⟩, ⟨.refl _, fun b o h n => ?_, fun _ h => .inl h, fun b o h => ?_, fun _ _ h => .inl h⟩⟩
  · have ne : b ≠ a := fun e => by rw [e, ta] at h; cases h
    rcases B.fro b o h with z | ⟨y, x, z⟩
    · exact .inl (by rw [upd_ne ne]; exact z)
    · exact .inr ⟨y, x, by rw [upd_ne ne]; exact z⟩
  · by_cases e : i = j
    · subst e
      rw [List.getElem?_set_self hi] at h
      cases h
      exact ⟨a, vs, ha, upd_same, r⟩
    · rw [List.getElem?_set_ne e] at h
      obtain ⟨b, us, h1, h2, h3⟩ := B.sh j es h
      refine ⟨b, us, h1, ?_, h3⟩
      rw [upd_ne]
      · exact h2
      · intro z
        subst z
        exact e ((List.getElem?_inj (List.getElem?_eq_some_iff.mp ha).1 B.nod).mp (ha.trans h1.symm))
  · have h1 := B.sa b ws h
    rcases h1 with ⟨x, z⟩ | z
    · exact .inl ⟨x, by rw [upd_ne (fun e => by rw [e, k2'] at z; cases z)]; exact z⟩
    · exact .inr z
  · rw [upd_ne (fun e => n (by rw [e]; exact mm))]; exact h
  · by_cases e : b = a
    · exact ⟨_, by rw [e]; exact upd_same⟩
    · exact ⟨o, by rw [upd_ne e]; exact h⟩
section
variable {X : Cx} {W0 W W1 : Wd} {S S1 : Sh} {σ : L2.St} {H H1 : Hp} {keep : List Nat} {dl : DA} {a b e o : Expr} {es : List Expr} {pos : Pos} {da db : DE} {dn it : DN} {dt : DT} {tg : Tg} {ρ : Env2}
def dPopS (d : DE) : DE := fun ρ S => (d ρ S).bind fun p => match p.1 with
  | .ref i => (p.2[i]?).bind fun ds => (ds[ds.length - 1]?).map fun x => (x, p.2.set i ds.dropLast)
  | _ => none
theorem Reps.dropLast {W : Wd} : ∀ {ds : List D} {vs : List V}, Reps W ds vs → Reps W ds.dropLast vs.dropLast
  | [], _, h => by obtain rfl : _ = [] := h; exact rfl
  | [d], _, h => by
    obtain ⟨v, r, rfl, h2, h3⟩ := h
    obtain rfl : r = [] := h3
    exact rfl
  | d :: d' :: ds, _, h => by
    obtain ⟨v, r, rfl, h2, h3⟩ := h
    obtain ⟨v', r', rfl, h4, h5⟩ := id h3
    exact ⟨v, _, rfl, h2, Reps.dropLast (ds := d' :: ds) h3⟩
theorem dpe_popS {apos cpos : Pos} (ho : PE X (.Call (.Attribute o "pop" apos) [] [] cpos) (tBM0 X.K "list" rPop (liftE X.K da))) : PE' X (.Call (.Attribute o "pop" apos) [] [] cpos) (dPopS da) := PE.imp ho fun σ H Q => by
  rintro ⟨W, ρ, S, r, S', R, hd, k⟩
  obtain ⟨⟨x, S1⟩, e1, hd⟩ := bindS hd
  cases x <;> simp only [reduceCtorEq] at hd
  rename_i i
  obtain ⟨ds, h1, hd⟩ := bindS hd
  obtain ⟨y, h2, hd⟩ := mapS hd
  cases hd
  refine ⟨W, ρ, S, _, S1, R, e1, fun W1 v H1 s1 R1 r1 => ?_⟩
  obtain ⟨a, ha, rfl⟩ := r1
  obtain ⟨a', vs, k1, k2, k3⟩ := R1.base.sh i ds h1
  rw [ha] at k1; cases k1
  obtain ⟨w, hw, rw_⟩ := k3.get h2
  refine ⟨.inl ⟨rfl, _, SqL.of k2⟩, a, vs, w, rfl, rfl, k2, by rw [k3.length]; exact hw, ?_⟩
  obtain ⟨B', s'⟩ := R1.base.setSh (List.getElem?_eq_some_iff.mp h1).1 ha k3.dropLast
  exact k W1 w _ (s1.trans s') ⟨B', R1.env⟩ rw_
theorem pop_rule {apos cpos : Pos} (ho : PE' X o da) (hbase : attributeBase o "pop" X.env (eval o X.env) = eval o X.env := by rfl) (hline : (apos.endLine == cpos.line) = true := by rfl) : PE' X (.Call (.Attribute o "pop" apos) [] [] cpos) (dPopS da) :=
  dpe_popS (pe_bm0 PySem.F.plainAttrs_list PySem.F.slot_list_pop PySem.F.type_list_pop mt_pop ho hbase hline)
/-- len, of a shared list too -/
def dLen (d : DE) : DE := fun ρ S => (d ρ S).bind fun p => match p.1 with
  | .ref i => (p.2[i]?).map fun ds => (.int ds.length, p.2)
  | x => (lenD x).map fun z => (z, p.2)
theorem dpe_len {p : Pos} (hm : X.mg "len" = none) (ha : PE' X e da) (hg : Gl X "len" := by rfl)
    (he : starEach [e] X.env = (false, eval e X.env) :: starEach [] X.env := by rfl) (hpl : (backTo pos (starEach [] X.env)).any (·.1) = false := by rfl) : PE' X (.Call (.Name "len" p) [e] [] pos) (dLen da) :=
  PE.imp (pe_callB (r := fun xs H Q => rDc X.K lenO xs H Q ∨ ∃ l ys, xs = [.ref l] ∧ H l = some (.lst ys) ∧ Q (.int ys.length) H) (CallR.or cd_len fun pins s σ H xs us Q I r ⟨l, ys, e1, e2, q⟩ => by
      subst e1
      exact call_len pins s σ H _ us Q I r ⟨_, _, rfl, .inl ⟨ys, SqL.of e2, rfl⟩, q⟩) hg hm boot_len (pa_cons ha pa_nil he) (by decide) (by decide) he hpl) fun σ H Q => by
  rintro ⟨W, ρ, S, r, S', R, hd, k⟩
  obtain ⟨⟨x, S1⟩, e1, hd⟩ := bindS hd
  refine ⟨W, ρ, S, x, S1, R, e1, fun W1 v H1 s1 R1 r1 => ?_⟩
  by_cases hr : ∃ i, x = .ref i
  · obtain ⟨i, rfl⟩ := hr
    obtain ⟨ds, h1, hd⟩ := mapS hd
    cases hd
    obtain ⟨a, ha, rfl⟩ := r1
    obtain ⟨a', vs, k1, k2, k3⟩ := R1.base.sh i ds h1
    rw [ha] at k1; cases k1
    exact .inr ⟨a, vs, rfl, k2, by rw [k3.length]; exact k W1 _ H1 s1 R1 rfl⟩
  · have hd' : (lenD x).map (fun z => (z, S1)) = some (r, S') := by
      cases x with
      | ref i => exact absurd ⟨i, rfl⟩ hr
      | _ => exact hd
    obtain ⟨z, h1, hd'⟩ := mapS hd'
    cases hd'
    exact .inl ⟨W1, _, [x], r, R1.base, Reps.one r1, h1, fun W2 w H2 s2 B2 r2 => k W2 w H2 (s1.trans s2) ⟨B2, R1.env.mono s2.le⟩ r2⟩
/-- a new list becomes a shared one -/
def sShare (keep : List Nat) (i : Nat) (d : DN) : DS := fun ρ S => (d (fzE keep 0 ρ) S).map fun p => .nx ((frz keep 0 ρ).set i (.val (.ref p.2.length))) (p.2 ++ [p.1])
theorem RelS.share (R : RelS X W0 W ρ S σ H) {p : Addr} {ds : List D} {vs : List V} (hp : H p = some (.lst vs)) (r : Reps W ds vs) (ht : W.T p = none) (hm : p ∉ W.m) (hH : X.H_0 p = none) (hn : ∀ (j : Nat) es, ρ[j]? = some (.own es) → σ[j]? ≠ some (some (V.ref p))) :
    RelS X W0 { W with m := W.m ++ [p] } ρ (S ++ [ds]) σ H ∧ Rep { W with m := W.m ++ [p] } (.ref S.length) (.ref p) ∧ Le W { W with m := W.m ++ [p] } := by
  have B := R.base
  have le : Le W { W with m := W.m ++ [p] } := ⟨fun i a h => by
    rw [List.getElem?_append_left (List.getElem?_eq_some_iff.mp h).1]; exact h, fun _ _ h => h, rfl⟩
  refine ⟨⟨⟨B.fro, by simp [B.len], fun i es h => ?_, ?_, fun a h => ?_, B.sa⟩, ⟨R.ent.le.trans le, R.ent.keep, fun b h => ?_, R.ent.ex, R.ent.newT⟩, R.len, fun i d h => ?_, fun i es h => ?_, R.inj⟩, ⟨p, ?_, rfl⟩, le⟩
  · by_cases l : i < S.length
    · rw [List.getElem?_append_left l] at h
      obtain ⟨a, us, h1, h2, h3⟩ := B.sh i es h
      exact ⟨a, us, le.m i a h1, h2, h3.mono le⟩
    · rw [List.getElem?_append_right (by omega)] at h
      have e : i - S.length = 0 := by
        by_cases z : i - S.length = 0
        · exact z
        · rw [List.getElem?_eq_none (by simp; omega)] at h; cases h
      rw [e] at h
      cases h
      refine ⟨p, vs, ?_, hp, r.mono le⟩
      rw [List.getElem?_append_right (by rw [B.len]; omega), B.len, e]
      rfl
  · rw [List.nodup_append]
    refine ⟨B.nod, by simp, fun a ha b hb e => ?_⟩
    have : b = p := by simpa using hb
    rw [e, this] at ha
    exact hm ha
  · rcases List.mem_append.mp h with z | z
    · exact B.apart a z
    · rw [show a = p by simpa using z]; exact ht
  · rcases List.mem_append.mp h with z | z
    · exact R.ent.new b z
    · rw [show b = p by simpa using z]; exact .inr hH
  · obtain ⟨v, h1, h2⟩ := R.val i d h
    exact ⟨v, h1, h2.mono le⟩
  · obtain ⟨a, us, k1, k2, k3, k4, k5, k6⟩ := R.own i es h
    refine ⟨a, us, k1, k2, k3.mono le, k4, fun q => ?_, k6⟩
    rcases List.mem_append.mp q with z | z
    · exact k5 z
    · rw [show a = p by simpa using z] at k1
      exact hn i es h k1
  · show (W.m ++ [p])[S.length]? = some p
    rw [List.getElem?_append_right (by rw [B.len]; omega), B.len]
    simp
theorem own_ne {p : Addr} (R : RelS X W0 W ρ S σ H) (hp : H p = none) : ∀ (j : Nat) es, (frz keep 0 ρ)[j]? = some (.own es) → σ[j]? ≠ some (some (V.ref p)) := fun j es h1 h2 => by
  obtain ⟨a, vs', k1, k2, _⟩ := R.own j es (frz_own h1)
  rw [h2] at k1
  cases k1
  rw [hp] at k2; cases k2
theorem share_of (keep : List Nat) {i : Nat} {st : Stmt} (h : PS X st (tAsg (liftN X.K dn) (gName i))) : PS' X st (sShare keep i dn) := PS.imp h fun D σ H => by
  rintro ⟨W0, W, ρ, S, o, R, h, k⟩
  obtain ⟨⟨r, S1⟩, e1, h⟩ := mapS h
  cases h
  refine evN R e1 fun W1 p vs H1 l R1 f => ?_
  have hH : X.H_0 p = none := by
    cases q : X.H_0 p with
    | none => rfl
    | some o =>
      obtain ⟨o', z⟩ := R.ent.ex p o q
      rw [f.new] at z; cases z
  obtain ⟨R2, r2, l2⟩ := R1.share f.at_ f.rep f.t f.m hH (own_ne R f.new)
  exact k _ _ H1 (l.trans l2) (R2.set i r2)
theorem dps_share (keep : List Nat) {i : Nat} {x : Str} {pos' : Pos} (hN : X.N.Nodup) (hi : X.N[i]? = some x) (hx : Loc X.env.scope x) (he : PN X e dn) (hs : swapsWith e (some (.Name x pos')) pos.line X.env = pure false := by rfl) (hf : X.fn x = true ∨ X.env.scope.names.lookup x = some .local := by first | exact .inl rfl | exact .inr rfl | assumption) :
    PS' X (.Assign [.Name x pos'] e pos) (sShare keep i dn) := share_of keep (ps_set hN hi hx he hs hf)
/-- a method of an own list without arguments: reverse -/
def sOwn0 (o : List D → List D) (i : Nat) : DS := fun ρ S => match ρ[i]? with
  | some (.own ds) => some (.nx (ρ.set i (.own (o ds))) S)
  | _ => none
theorem Reps.reverse {W : Wd} : ∀ {ds : List D} {vs : List V}, Reps W ds vs → Reps W ds.reverse vs.reverse
  | [], _, h => by obtain rfl : _ = [] := h; exact rfl
  | d :: ds, _, h => by
    obtain ⟨v, r, rfl, h2, h3⟩ := h
    rw [List.reverse_cons, List.reverse_cons]
    exact (Reps.reverse h3).append (Reps.one h2)
theorem dps_reverse {i : Nat} {apos cpos : Pos} (ho : PE X o (tVar i)) (hbase : attributeBase o "reverse" X.env (eval o X.env) = eval o X.env := by rfl) (hline : (apos.endLine == cpos.line) = true := by rfl)
    (hs : swapsWith (.Call (.Attribute o "reverse" apos) [] [] cpos) none pos.line X.env = pure false := by rfl) : PS' X (.Expr (.Call (.Attribute o "reverse" apos) [] [] cpos) pos) (sOwn0 List.reverse i) :=
  PS.imp (ps_expr (pe_bm0 PySem.F.plainAttrs_list PySem.F.slot_list_reverse PySem.F.type_list_reverse mt_reverse ho hbase hline) hs) fun D σ H => by
  rintro ⟨W0, W, ρ, S, o, R, h, k⟩
  unfold sOwn0 at h
  split at h
  · rename_i ds q
    cases h
    obtain ⟨a, vs, q1, q2, q3, _⟩ := R.own i ds q
    exact ⟨_, q1, .inl ⟨rfl, _, SqL.of q2⟩, a, vs, rfl, rfl, q2, k W σ _ (.refl _) (R.upd q q1 q3.reverse)⟩
  · cases h
theorem app_rule (keep : List Nat) {i : Nat} {apos cpos : Pos} (ho : PE X o (tVar i)) (he : PE' X e da) (hbase : attributeBase o "append" X.env (eval o X.env) = eval o X.env := by rfl)
    (hfew : ((backTo cpos (starEach [e] X.env)).all (fun x => !x.1) && (backToKw cpos (keywordEach [] X.env)).all (fun x => x.1.isSome)
      && decide ([e].length + ([] : List Keyword).length + (if ([] : List Keyword).isEmpty then 0 else 1) < 30)) = true := by rfl)
    (hline : (apos.endLine == cpos.line) = true := by rfl) (hs : starEach [e] X.env = (false, eval e X.env) :: starEach [] X.env := by rfl) (hplain : (backTo cpos (starEach [] X.env)).any (·.1) = false := by rfl) :
    PE X (.Call (.Attribute o "append" apos) [e] [] cpos) (appTE i X.K (liftE X.K da)) :=
  pe_bm PySem.F.plainAttrs_list PySem.F.slot_list_append PySem.F.type_list_append mt_append ho (pa_cons he pa_nil hs) hbase hfew hline hs hplain
/-- xs[k] = e, xs an own list; nothing of the own lists in keep is kept -/
def setIO (i : Nat) (ρ : Env2) (d ix : D) (S : Sh) : Option Out := match ρ[i]?, ix with
  | some (.own ds), .int j => (ixN ds.length j).map fun n => .nx (ρ.set i (.own (ds.set n d))) S
  | _, _ => none
def sSetIP (keep keep2 : List Nat) (i : Nat) (d ix : DE) : DS := fun ρ S => (d (fzE keep 0 ρ) S).bind fun p => if chk keep p.2 && (pureD p.1 || keep.isEmpty) then (ix (fzE keep2 0 ρ) p.2).bind fun q => if chk keep2 q.2 then setIO i ρ p.1 q.1 q.2 else none else none
theorem setIO_inv {i : Nat} {d ix : D} {out : Out} (h : setIO i ρ d ix S = some out) : ∃ ds j n, ρ[i]? = some (.own ds) ∧ ix = .int j ∧ ixN ds.length j = some n ∧ out = .nx (ρ.set i (.own (ds.set n d))) S := by
  unfold setIO at h
  split at h
  · rename_i ds j q
    obtain ⟨n, h1, rfl⟩ := mapS h
    exact ⟨_, _, n, q, rfl, h1, rfl⟩
  · cases h
theorem Reps.set {W : Wd} : ∀ {ds : List D} {vs : List V} (n : Nat) {d : D} {v : V}, Reps W ds vs → Rep W d v → Reps W (ds.set n d) (vs.set n v)
  | [], _, _, _, _, h, _ => by obtain rfl : _ = [] := h; exact rfl
  | x :: ds, _, 0, _, _, h, r => by
    obtain ⟨v, t, rfl, h2, h3⟩ := h
    exact ⟨_, t, rfl, r, h3⟩
  | x :: ds, _, n + 1, _, _, h, r => by
    obtain ⟨v, t, rfl, h2, h3⟩ := h
    exact ⟨v, _, rfl, h2, Reps.set n h3 r⟩
theorem dps_setIP (keep keep2 : List Nat) {i : Nat} {ix : Expr} {pos' : Pos} (he : PE' X e da) (ho : PE X o (tVar i)) (hi : PE' X ix db) (hg : ∀ (ho : PE X o (tVar i)) (hi : PE' X ix db), PG X (.Subscript o ix pos') (gSub (tVar i) (liftE X.K db) rSetL))
    (hs : swapsWithSole [.Subscript o ix pos'] e pos.line X.env = pure false := by rfl) (hw : swappedStores [.Subscript o ix pos'] e X.env = pure none := by rfl)
    (h1 : (assignEach [.Subscript o ix pos'] X.env).map (·.2) = [assign (.Subscript o ix pos') X.env] := by rfl) : PS' X (.Assign [.Subscript o ix pos'] e pos) (sSetIP keep keep2 i da db) := PS.imp (ps_asg he (hg ho hi) hs hw h1) fun D σ H => by
  rintro ⟨W0, W, ρ, S, o, R, h, k⟩
  obtain ⟨⟨r, S1⟩, e1, h⟩ := bindS h
  simp only [Option.ite_none_right_eq_some, Bool.and_eq_true, Bool.or_eq_true] at h
  obtain ⟨⟨hS, hp⟩, h⟩ := h
  obtain ⟨⟨x, S2⟩, e2, h⟩ := bindS h
  simp only [Option.ite_none_right_eq_some] at h
  obtain ⟨hS2, h⟩ := h
  obtain ⟨ds, j, n, q1, rfl, q2, rfl⟩ := setIO_inv h
  refine evP R e1 hS fun W1 v H1 l R1 r1 => ?_
  obtain ⟨a, vs, k1, k2, k3, _⟩ := R1.own i ds q1
  refine ⟨_, k1, evP R1 e2 hS2 fun W2 u H2 l2 R2 r2 => ?_⟩
  have ru := r2 (.inl rfl)
  cases ru
  obtain ⟨a', vs', k1', k2', k3', _⟩ := R2.own i ds q1
  rw [k1] at k1'; cases k1'
  exact ⟨a, vs', j, n, rfl, rfl, k2', by rw [k3'.length]; exact q2, k W2 σ _ (l.trans l2) (R2.upd q1 k1 (k3'.set n ((r1 hp).mono l2)))⟩

/-! ### isinstance, bit_length -/
def tyN : D → Option String
  | .non => some "NoneType" | .bl _ => some "bool" | .int _ => some "int" | .str _ => some "str" | .tup _ => some "tuple" | .lst _ => some "list"
  | _ => none
def isTy (t n : String) : Bool := t == n || (t == "bool" && n == "int")
theorem kit_is {K : PySem.W.Frag} {t n : String} (ht : t ∈ ["NoneType", "bool", "int", "str", "tuple", "list"]) (hn : n ∈ ["bool", "int", "str", "tuple", "list"]) : PySem.W.kitOne K (.type t) (.type n) = some (isTy t n) := by
  have h : ∀ t ∈ ["NoneType", "bool", "int", "str", "tuple", "list"], ∀ n ∈ ["bool", "int", "str", "tuple", "list"], kitB t n = some (isTy t n) := by decide +kernel
  exact kit_ty (h t ht n hn)
theorem tyN_of {W : Wd} {d : D} {x : V} {t : String} (B : Base X.K W S H) (h : tyN d = some t) (r : Rep W d x) : TyX X.K H x (.type t) ∧ t ∈ ["NoneType", "bool", "int", "str", "tuple", "list"] := by
  cases d with
  | non => cases h; cases r; exact ⟨.base .non, by decide⟩
  | bl b => cases h; cases r; exact ⟨.base (.bl _), by decide⟩
  | int b => cases h; cases r; exact ⟨.base (.int _), by decide⟩
  | str b => cases h; cases r; exact ⟨.base (.str _), by decide⟩
  | tup b => cases h; obtain ⟨a, vs, rfl, t, _⟩ := r; exact ⟨.base (.tup (B.tup t)), by decide⟩
  | lst b => cases h; obtain ⟨a, vs, rfl, t, _⟩ := r; exact ⟨.base (.lst (B.lst t)), by decide⟩
  | _ => cases h
def isiD (ns : List String) (d : D) : Option D := (tyN d).map fun t => .bl (ns.any fun n => isTy t n)
def okTy : List String := ["bool", "int", "str", "tuple", "list"]
/-- isinstance(e, T), T a built-in class -/
theorem dpe_isi {n : String} {p : Pos} (hm : X.mg "isinstance" = none) (ha : PE' X e da) (hb : PE X b (tC (.ty n))) (hn : okTy.contains n = true) (hg : Gl X "isinstance" := by rfl)
    (he : starEach [e, b] X.env = (false, eval e X.env) :: starEach [b] X.env := by rfl) (he2 : starEach [b] X.env = (false, eval b X.env) :: starEach [] X.env := by rfl) (hpl : (backTo pos (starEach [b] X.env)).any (·.1) = false := by rfl) : PE' X (.Call (.Name "isinstance" p) [e, b] [] pos) (d1 (isiD [n]) da) :=
  PE.imp (pe_callB call_isi hg hm (by decide +kernel) (pa_cons ha (pa_cons hb pa_nil he2) he) (by decide) (by decide) he hpl) fun σ H Q => by
  rintro ⟨W, ρ, S, r, S', R, hd, k⟩
  obtain ⟨⟨d, S1⟩, e1, hd⟩ := bindS hd
  obtain ⟨z, e2, hd⟩ := mapS hd
  cases hd
  obtain ⟨t, e3, rfl⟩ := mapS e2
  refine ⟨W, ρ, S, d, _, R, e1, fun W1 v H1 s1 R1 r1 => ?_⟩
  obtain ⟨t1, t2⟩ := tyN_of R1.base e3 r1
  have hn' : n ∈ ["bool", "int", "str", "tuple", "list"] := by simpa [okTy] using hn
  exact ⟨v, .ty n, _, _, isTy t n, rfl, .ty n, t1, kit_is t2 hn', by
    have : (isTy t n) = [n].any (fun n => isTy t n) := by simp
    rw [this]
    exact k W1 _ H1 s1 R1 rfl⟩
theorem kit_any {K : PySem.W.Frag} {t : String} (ht : t ∈ ["NoneType", "bool", "int", "str", "tuple", "list"]) : ∀ ns : List String, (∀ n ∈ ns, n ∈ ["bool", "int", "str", "tuple", "list"]) → PySem.W.kitAny K (.type t) (ns.map Value.type) = some (ns.any fun n => isTy t n)
  | [], _ => kitAny_nil
  | n :: ns, h => by
    have h1 := kit_is (K := K) ht (h n List.mem_cons_self)
    rw [List.map_cons]
    refine kitAny_cons h1 (fun z => ?_) fun z => ?_
    · rw [List.any_cons, z, Bool.false_or]
      exact kit_any ht ns fun m hm => h m (List.mem_cons_of_mem _ hm)
    · rw [List.any_cons, z, Bool.true_or]
theorem paired_ty : ∀ ns : List String, Paired ClsV (ns.map V.ty) (ns.map Value.type)
  | [] => .nil
  | n :: ns => .cons (.ty n) (paired_ty ns)
/-- isinstance(e, (T1, T2)) -/
theorem dpe_isiT {ns : List String} {p : Pos} (hm : X.mg "isinstance" = none) (ha : PE' X e da) (hb : PE X b (fun σ H Q => ∀ q, H q = none → Q (.ref q) (upd H q (.tup (ns.map V.ty))))) (hn : ns.all (fun n => okTy.contains n) = true) (hg : Gl X "isinstance" := by rfl)
    (he : starEach [e, b] X.env = (false, eval e X.env) :: starEach [b] X.env := by rfl) (he2 : starEach [b] X.env = (false, eval b X.env) :: starEach [] X.env := by rfl) (hpl : (backTo pos (starEach [b] X.env)).any (·.1) = false := by rfl) : PE' X (.Call (.Name "isinstance" p) [e, b] [] pos) (d1 (isiD ns) da) :=
  PE.imp (pe_callB call_isiT hg hm (by decide +kernel) (pa_cons ha (pa_cons hb pa_nil he2) he) (by decide) (by decide) he hpl) fun σ H Q => by
  rintro ⟨W, ρ, S, r, S', R, hd, k⟩
  obtain ⟨⟨d, S1⟩, e1, hd⟩ := bindS hd
  obtain ⟨z, e2, hd⟩ := mapS hd
  cases hd
  obtain ⟨t, e3, rfl⟩ := mapS e2
  refine ⟨W, ρ, S, d, _, R, e1, fun W1 v H1 s1 R1 r1 q hq => ?_⟩
  obtain ⟨B2, s2⟩ := R1.base.alloc (.tup (ns.map V.ty)) hq
  obtain ⟨t1, t2⟩ := tyN_of B2 e3 r1
  exact ⟨v, q, ns.map V.ty, _, ns.map Value.type, ns.any fun n => isTy t n, rfl, upd_same, paired_ty ns, t1, kit_any t2 ns (fun n hn1 => by
    have := List.all_eq_true.mp hn n hn1
    simpa [okTy] using this), k W1 _ _ (s1.trans s2) ⟨B2, R1.env⟩ rfl⟩
theorem pe_tys {es : List Expr} {t : TA} {ns : List String} (h : PA X es t) (ht : ∀ σ H Q, Q (ns.map V.ty) H → t σ H Q) (hl : ns.length ≤ 100) {x1 : Nat} : PE X (.Tuple es x1 pos) (fun σ H Q => ∀ q, H q = none → Q (.ref q) (upd H q (.tup (ns.map V.ty)))) :=
  PE.imp (pe_tup h) fun σ H Q k => ht σ H _ ⟨by
    rw [List.length_map]
    exact Nat.le_trans hl (by decide), k⟩
theorem pe_ty {x : Str} {n : String} {p : Pos} (hm : X.mg x = none) (hv : bootBuiltins x = some (.type n)) (hg : Gl X x := by rfl) (hn : x ≠ "__name__" := by decide) (hd : (x == ("__debug__" : Str)) = false := by decide) : PE X (.Name x p) (tC (.ty n)) := pe_bltn hg hm hv rfl hn hd
end
end DL


/-! DL12: callees, the head's facts, small rules for the printer -/
namespace DL
open PySem L2 PyProof.Rows

/-- a def of the text, as it is called -/
structure Callee (P : Program) (w : World) (K : PySem.W.Frag) (mg : Str → Option Value) (base : Heap) (x : Str) (k : Nat) (ps : List Str) (sp : Sp) : Prop where
  ex : ∃ f fd, FnOk P w K mg base CX0 k f fd ps sp ∧ mg x = some (.ref f) ∧ PySem.W.keepIn K (.ref f) = true ∧ Binds K fd ps [] ∧ ∃ oc od osl, K.lookup f = some ⟨oc, od, .func fd, osl⟩
theorem FunD.lk {K : PySem.W.Frag} {x qual : Str} {params : Arguments} {body : List Stmt} {scope : Scope} {f : Addr} {fd : FuncData} (F : FunD K x qual params body scope [] [] f fd) : ∃ oc od osl, K.lookup f = some ⟨oc, od, .func fd, osl⟩ := by
  obtain ⟨oc, od, dV, kV, doc, pm, an, cdv, ct, osl, e1, l1, _⟩ := F.ex
  exact ⟨oc, od, osl, l1⟩
/-- a def of the text stands -/
structure Stand (K : PySem.W.Frag) (mg : Str → Option Value) (x : Str) (st : Stmt) (ps : List Str) : Prop where
  ex : ∃ f fd, FunD K x x (defArgs st) (defBody st) (defScope st) [] [] f fd ∧ mg x = some (.ref f) ∧ Binds K fd ps []
section
variable {P : Program} {w : World} {K : PySem.W.Frag} {mg : Str → Option Value} {base : Heap} {x : Str} {st : Stmt} {ps N : List Str} {k j : Nat} {sp : Sp}
theorem Callee.mono (h : Callee P w K mg base x j ps sp) (l : j ≤ k) : Callee P w K mg base x k ps sp := by
  obtain ⟨f, fd, h1, h2⟩ := h.ex
  exact ⟨f, fd, h1.mono l, h2⟩
theorem Stand.okD {np n : Nat} (F : Stand K mg x st ps) (S : FnScope N ps (defScope st)) {ds : DS} (hb : ∀ f, Body P w K mg base N x (defScope st) (defBody st) f k ds) (hl : ps.length ≤ N.length := by decide) (h1 : ps.length = np := by rfl) (h2 : N.length = n := by rfl) :
    Callee P w K mg base x (k + 1) ps (spD K np (fnD np n ds)) := by
  subst h1
  subst h2
  obtain ⟨f, fd, h1, h2, h3⟩ := F.ex
  exact ⟨f, fd, DL.FunD.okD h1 S hl (hb f), h2, h1.kp, h3, DL.FunD.lk h1⟩
theorem Stand.okN {np n : Nat} (F : Stand K mg x st ps) (S : FnScope N ps (defScope st)) {ds : DS} (hb : ∀ f, Body P w K mg base N x (defScope st) (defBody st) f k ds) (hl : ps.length ≤ N.length := by decide) (h1 : ps.length = np := by rfl) (h2 : N.length = n := by rfl) :
    Callee P w K mg base x (k + 1) ps (spN K np (fnN np n ds)) := by
  subst h1
  subst h2
  obtain ⟨f, fd, h1, h2, h3⟩ := F.ex
  exact ⟨f, fd, DL.FunD.okN h1 S hl (hb f), h2, h1.kp, h3, DL.FunD.lk h1⟩
/-- nothing is claimed -/
theorem Stand.ok0 {np : Nat} (F : Stand K mg x st ps) (S : FnScope N ps (defScope st)) (h1 : ps.length = np := by rfl) : Callee P w K mg base x 1 ps (spD K np fun _ _ => none) := by
  subst h1
  obtain ⟨f, fd, h1, h2, h3⟩ := F.ex
  exact ⟨f, fd, h1.ok S (fun vs H Q E h => spD_len h) fun cdv A outer s H vs Q E hr h => ⟨tNever, pss_never, by
    obtain ⟨W, S, ds, r, S', B, q, l, e, _⟩ := h
    cases e⟩, h2, h1.kp, h3, DL.FunD.lk h1⟩
end
section
variable {X : Cx} {e : Expr} {es : List Expr} {dl : DA} {pos : Pos} {k j : Nat} {ps : List Str} {np : Nat} {m : DF} {mn : NF} {da : DE} {dt : DT} {dn : DN}
theorem dpe_cl {x : Str} {p : Pos} (F : Callee X.prog X.w X.K X.mg X.base x j ps (spD X.K np m)) (hr : Room k X.A) (ha : PA' X (e :: es) dl) (hj : j ≤ k := by first | decide | omega) (hg : Gl X x := by rfl)
    (hdb : (x == ("__debug__" : Str)) = false := by decide) (he : starEach (e :: es) X.env = (false, eval e X.env) :: starEach es X.env := by rfl) (hpl : (backTo pos (starEach es X.env)).any (·.1) = false := by rfl) :
    PE' X (.Call (.Name x p) (e :: es) [] pos) (dFn np m dl) := by
  obtain ⟨f, fd, h1, h2, h3, h4, _⟩ := F.ex
  exact dpe_call h1 (hr.mono hj) h2 h3 h4 ha hg hdb he hpl
theorem dn_cl {x : Str} {p : Pos} (F : Callee X.prog X.w X.K X.mg X.base x j ps (spN X.K np mn)) (hr : Room k X.A) (ha : PA' X (e :: es) dl) (hj : j ≤ k := by first | decide | omega) (hg : Gl X x := by rfl)
    (hdb : (x == ("__debug__" : Str)) = false := by decide) (he : starEach (e :: es) X.env = (false, eval e X.env) :: starEach es X.env := by rfl) (hpl : (backTo pos (starEach es X.env)).any (·.1) = false := by rfl) :
    PN X (.Call (.Name x p) (e :: es) [] pos) (nFn np mn dl) := by
  obtain ⟨f, fd, h1, h2, h3, h4, _⟩ := F.ex
  exact dn_call h1 (hr.mono hj) h2 h3 h4 ha hg hdb he hpl
theorem dpts_nil : PTs X [] (liftT X.K dtYes) := ⟨fun pins s σ H Q I h => by
  obtain ⟨W, ρ, S, r, S', R, e, k⟩ := h
  cases e
  exact pts_nil.run pins s σ H Q I (k W H (.refl _ _) R)⟩
theorem dpts_one {c : Expr} (h : PT' X c dt) : PTs X [c] (liftT X.K dt) := pts_one h
def bitsD : D → Option D
  | .int i => some (.int (Builtin.Int.intBits i : Nat))
  | _ => none
theorem dpe_bits {apos : Pos} {o : Expr} (ho : PE' X o da) (hbase : attributeBase o "bit_length" X.env (eval o X.env) = eval o X.env := by rfl) (hline : (apos.endLine == pos.line) = true := by rfl) : PE' X (.Call (.Attribute o "bit_length" apos) [] [] pos) (d1 bitsD da) := PE.imp (pe_bits ho hbase hline) fun σ H Q => by
  rintro ⟨W, ρ, S, r, S', R, hd, k⟩
  obtain ⟨⟨d, S1⟩, e1, hd⟩ := bindS hd
  obtain ⟨z, e2, hd⟩ := mapS hd
  cases hd
  cases d <;> simp only [bitsD, reduceCtorEq] at e2
  cases e2
  refine ⟨W, ρ, S, _, _, R, e1, fun W1 v H1 s1 R1 r1 => ?_⟩
  cases r1
  exact ⟨_, rfl, k W1 _ H1 s1 R1 rfl⟩
end
theorem bt_int : bootBuiltins "int" = some (.type "int") := by decide +kernel
theorem bt_abs : bootBuiltins "abs" = some (.builtin "abs") := by decide +kernel
theorem bt_tuple : bootBuiltins "tuple" = some (.type "tuple") := by decide +kernel
theorem bt_list : bootBuiltins "list" = some (.type "list") := by decide +kernel
theorem bt_str : bootBuiltins "str" = some (.type "str") := by decide +kernel
theorem bt_bool : bootBuiltins "bool" = some (.type "bool") := by decide +kernel
def sNever : DS := fun _ _ => none
theorem dps_never {X : Cx} {st : Stmt} : PS' X st sNever := PS.imp ps_never fun D σ H => by
  rintro ⟨W0, W, ρ, S, o, R, h, k⟩
  cases h
theorem pass_never {P : Program} {w : World} {K : PySem.W.Frag} {mg : Str → Option Value} {base : Heap} {N : List Str} {qual : Str} {scope : Scope} {f : Addr} {cd : Value} {A : Around} {outer : List Env} {s : Shared} {H : Hp} {E : XK} :
    PassesOwn (model P w) (cxOf CX0 P w K mg base N qual scope f cd A outer s H E).nox.A (cxOf CX0 P w K mg base N qual scope f cd A outer s H E).nox.env (cxOf CX0 P w K mg base N qual scope f cd A outer s H E).nox.xe := PassesOwn.never
/-! ### the head -/
section
open He
abbrev AlE : Type := AlD × Bool
def obsE (n : Nat) (fa : List Fa) (fn : List DefD) (ex : PySem.W.Frag → Bool) (g : Addr → Option Obj) : AlE := (obsDG n fa fn g, ex (frG g (asD g n)))
def hookE (n : Nat) (fa : List Fa) (fn : List DefD) (ex : PySem.W.Frag → Bool) : PySem.W.Hook where
  α := AlE
  obs := fun s => obsE n fa fn ex s.heap.get?
  val := fun _ => (valD fn, true)
  says := fun _ h => ∃ K : PySem.W.Frag, K.In h ∧ SaysD fa fn K ∧ ex K = true
  of := fun _ _ e => ⟨_, frG_in, congrArg (fun z : AlE => z.1) e, congrArg (fun z : AlE => z.2) e⟩
  keeps := fun _ _ _ ⟨K, hK, c⟩ k => ⟨K, PySem.W.Frag.In.keeps hK k, c⟩
theorem obsE_eq {n : Nat} {fa : List Fa} {fn : List DefD} {ex : PySem.W.Frag → Bool} {g : Addr → Option Obj} {s : Shared} (h : ∀ a, g a = s.heap.get? a) : obsE n fa fn ex g = (hookE n fa fn ex).obs s := by
  have e : g = s.heap.get? := funext h
  rw [e] <;> rfl
def defD (x : Str) (st : Stmt) : DefD := ⟨(x, none), x, x, defArgs st, defBody st, defScope st, [], []⟩
end
/-- one function object stands at an address -/
theorem fn_same {K : PySem.W.Frag} {f : Addr} {fd fd' : FuncData} {x : Str} {st : Stmt} (F : FunD K x x (defArgs st) (defBody st) (defScope st) [] [] f fd) (h : ∃ oc od osl, K.lookup f = some ⟨oc, od, .func fd', osl⟩) : fd = fd' := by
  obtain ⟨oc', od', osl', l2⟩ := h
  obtain ⟨oc, od, dV, kV, doc, pm, an, cdv, ct, osl, e1, l1, _⟩ := F.ex
  rw [l1] at l2
  cases l2
  rfl
theorem Reps.ints {W : Wd} : ∀ ns : List Int, Reps W (ns.map D.int) (ns.map V.int)
  | [] => rfl
  | n :: ns => ⟨_, _, rfl, rfl, Reps.ints ns⟩
theorem start_spD {K : PySem.W.Frag} {H : Hp} {a : Addr} {ns : List Int} {m : DF} {S' : Sh} (hO : Only H) (hS : SqL K H a (ns.map V.int)) (h : m [.rol (ns.map .int)] [] = some (.bl true, S')) : spD K 1 m [.ref a] H (fun v _ => v = .bl true) fun _ _ _ => False := by
  refine ⟨⟨[], fun _ => none, some (a, ns.map V.int)⟩, [], [.rol (ns.map .int)], .bl true, S', ⟨(fun _ _ z => nomatch z), rfl, (fun i ds z => nomatch z), List.nodup_nil, (fun _ _ => rfl), fun b vs z => ?_⟩, ⟨.ref a, [], rfl, ⟨a, _, rfl, rfl, Reps.ints ns⟩, rfl⟩, rfl, h, fun W' v H' _ _ r => r⟩
  cases z
  rcases hS with (z | ⟨o, z⟩) | z
  · rcases hO a with q | ⟨o, xs, q⟩ <;> (rw [z] at q; cases q)
  · exact .inl ⟨o, z⟩
  · exact .inr z
theorem walk_D {l : PySem.W.OpenLaw} {k : Nat} {q : Program} {loose : List Str} {XP : (Str → Option Value) → Heap → Prop} {YP : World → Heap → Prop} {d : DefRec} {x : Str} {m : DF}
    (hn : l.most = some 63) (hdf : d.params.defaults = []) (hr : Room k callerA)
    (F : ∀ (w : World) (mg : Str → Option Value) (fa : Addr) (h : Heap), YP w h → h.Ns mainGlobals mg → mg d.name = some (.ref fa) →
      ∃ (K : PySem.W.Frag) (fd : FuncData), K.In h ∧ (∀ (s : Shared) (u : Value), BindsTo s fd ⟨[u], []⟩ [(x, u)]) ∧
        ∀ base : Heap, K.In base → base.Ns mainGlobals mg → FnOk l.prog w K mg base CX0 k fa fd [x] (spD K 1 m))
    (hm : ∀ ns : List Int, ns.length ≤ 63 → (∀ n ∈ ns, Builtin.Int.intBits n ≤ 1048576) → ∃ S', m [.rol (ns.map .int)] [] = some (.bl true, S')) :
    PySem.W.WalkO q loose XP YP l.row.toRowW d [] (fun f vs => PySem.call f vs) := by
  refine Att.attach_callB hn hdf fun w s₀ s₁ mg mb fa o pm cd doc a vs ns G Y ho hd hcd hmg hobj hints hlen hbits hg => ?_
  obtain ⟨K, fd, KX, hb, hF⟩ := F w mg fa _ Y G.T.g hmg
  obtain ⟨S', hS'⟩ := hm ns hlen hbits
  exact law_call KX G.T.g G.T.b G.T.builtins G.T.nolimit hg hobj hints (Nat.le_trans hlen (by decide)) hr hF hb (fun H hO hS => start_spD hO hS hS') fun H e s' z => z
end DL


namespace DL
open PySem L2
section
variable {X : Cx} {W0 W W1 : Wd} {ρ : Env2} {S S1 : Sh} {σ : L2.St} {H H1 : Hp} {tge e : Expr} {da : DE} {tg : Tg} {pos : Pos}
/-! ### several names at once -/
def sSetT (keep : List Nat) (tg : Tg) (d : DE) : DS := fun ρ S => (d (fzE keep 0 ρ) S).bind fun p => (bindT tg p.1).map fun u => .nx (putS (frz keep 0 ρ) u) p.2
theorem dps_setT (keep : List Nat) (he : PE' X e da) (hg : PG X tge (tgOf X.K tg)) (hs : swapsWithSole [tge] e pos.line X.env = pure false := by rfl) (hw : swappedStores [tge] e X.env = pure none := by rfl) (h1 : (assignEach [tge] X.env).map (·.2) = [assign tge X.env] := by rfl) :
    PS' X (.Assign [tge] e pos) (sSetT keep tg da) := PS.imp (ps_asg he hg hs hw h1) fun D σ H => by
  rintro ⟨W0, W, ρ, S, o, R, h, k⟩
  obtain ⟨⟨r, S1⟩, e1, h⟩ := bindS h
  obtain ⟨u, e2, h⟩ := mapS h
  cases h
  exact evF R e1 fun W1 v H1 l R1 r1 => tg_run R1.base tg r v σ u _ e2 r1 fun w q => k W1 _ H1 l (RelS.puts q R1)
end
end DL


namespace DL
open PySem L2
def wp {α : Type} (o : Option α) (Q : α → Prop) : Prop := ∃ a, o = some a ∧ Q a
section
variable {α β : Type} {Q : α → Prop} {ρ : Env'} {σ : Env2} {S : Sh} {QD : D × Sh → Prop} {QT : Bool × Sh → Prop} {QN QA : List D × Sh → Prop} {QO : Out → Prop} {Q1 : D → Prop} {g : D → D → Option D} {g1 : D → Option D} {gc : List D → Option D}
  {a b c : DE} {t t' : DT} {da : DA} {dn : DN} {s1 s2 : DS} {keep : List Nat} {i j : Int} {n k : Nat} {x y z : D} {xs ys : List D} {u v w : Bool} {s s' : Str}
theorem wp_some {a : α} : wp (some a) Q = Q a := by simp [wp]
theorem wp_none : wp (none : Option α) Q = False := by simp [wp]
theorem wp_bind {o : Option α} {f : α → Option β} {Q : β → Prop} : wp (o.bind f) Q = wp o fun a => wp (f a) Q := by
  cases o <;> simp [wp]
theorem wp_map {o : Option α} {f : α → β} {Q : β → Prop} : wp (o.map f) Q = wp o fun a => Q (f a) := by
  cases o <;> simp [wp]
theorem wp_ite {c : Prop} [Decidable c] {a b : Option α} : wp (if c then a else b) Q = if c then wp a Q else wp b Q := by
  split <;> rfl
theorem wp_iteN {c : Prop} [Decidable c] {a : Option α} : wp (if c then a else none) Q = (c ∧ wp a Q) := by
  split <;> simp [wp, *]
theorem wp_mono {o : Option α} {Q Q' : α → Prop} (h : wp o Q) (k : ∀ a, Q a → Q' a) : wp o Q' := by
  obtain ⟨a, e, q⟩ := h
  exact ⟨a, e, k a q⟩
theorem wp_ok {o : Option α} {a : α} (h : o = some a) (q : Q a) : wp o Q := ⟨a, h, q⟩
theorem wp_eq {o : Option α} {a : α} (h : wp o (· = a)) : o = some a := by
  obtain ⟨b, e, q⟩ := h
  rw [e, q]
/-! ### looks -/
theorem dV_s {o : Option D} : dV (n + 1) (o :: ρ) S = dV n ρ S := by simp only [dV, List.getElem?_cons_succ]
theorem dV_z {d : D} : dV 0 (some d :: ρ) S = some (d, S) := rfl
theorem w_dC {d : D} : wp (dC d ρ S) QD = QD (d, S) := wp_some
theorem w_d2 : wp (d2 g a b ρ S) QD = wp (a ρ S) fun p => wp (b ρ p.2) fun q => wp (g p.1 q.1) fun r => QD (r, q.2) := by
  simp only [d2, wp_bind, wp_map]
theorem w_d1 : wp (d1 g1 a ρ S) QD = wp (a ρ S) fun p => wp (g1 p.1) fun r => QD (r, p.2) := by
  simp only [d1, wp_bind, wp_map]
theorem w_call : wp (dCall gc da ρ S) QD = wp (da ρ S) fun p => wp (gc p.1) fun r => QD (r, p.2) := by
  simp only [dCall, wp_bind, wp_map]
theorem w_nil : wp (dNil ρ S) QA = QA ([], S) := wp_some
theorem w_cons : wp (dCons a da ρ S) QA = wp (a ρ S) fun p => wp (da ρ p.2) fun q => QA (p.1 :: q.1, q.2) := by
  unfold dCons
  cases a ρ S with
  | none => simp [wp]
  | some p =>
    simp only [wp_some]
    cases da ρ p.2 <;> simp [wp]
theorem w_tup : wp (dTup da ρ S) QD = wp (da ρ S) fun p => p.1.length ≤ sizeLine ∧ QD (.tup p.1, p.2) := by
  simp only [dTup, w_call, tupO, wp_iteN, wp_some]
theorem w_nLst : wp (nLst da ρ S) QA = wp (da ρ S) fun p => p.1.length ≤ sizeLine ∧ QA p := by
  simp only [nLst, wp_bind, wp_iteN, wp_some]
theorem w_dFz : wp (dFz dn ρ S) QD = wp (dn ρ S) fun p => QD (.lst p.1, p.2) := by simp only [dFz, wp_map]
theorem w_nList : wp (nList a ρ S) QA = wp (a ρ S) fun p => wp (seqD p.1) fun ds => QA (ds, p.2) := by simp only [nList, wp_bind, wp_map]
theorem w_dFn {m : DF} : wp (dFn n m da ρ S) QD = wp (da ρ S) fun p => p.1.length = n ∧ wp (m p.1 p.2) QD := by
  simp only [dFn, wp_bind, wp_iteN]
theorem w_nFn {m : NF} : wp (nFn n m da ρ S) QA = wp (da ρ S) fun p => p.1.length = n ∧ wp (m p.1 p.2) QA := by
  simp only [nFn, wp_bind, wp_iteN]
theorem w_iRg {g : List D → Option (List D)} : wp (iRg g da ρ S) QA = wp (da ρ S) fun p => wp (g p.1) fun ds => QA (ds, p.2) := by simp only [iRg, wp_bind, wp_map]
theorem w_iSeq : wp (iSeq a ρ S) QA = wp (a ρ S) fun p => wp (itemsD p.1) fun ds => QA (ds, p.2) := by simp only [iSeq, wp_bind, wp_map]
theorem w_tYes : wp (dtYes ρ S) QT = QT (true, S) := wp_some
/-- a value that must be a bool -/
def isB (Q : Bool → Prop) : D → Prop
  | .bl k => Q k
  | _ => False
theorem isB_bl {Q : Bool → Prop} {k : Bool} : isB Q (.bl k) = Q k := rfl
theorem w_dtE : wp (dtE a ρ S) QT = wp (a ρ S) fun p => isB (fun k => QT (k, p.2)) p.1 := by
  simp only [dtE, wp_bind]
  congr 1
  funext p
  rcases p with ⟨x, S⟩
  cases x <;> simp [wp, isB]
theorem w_not : wp (dNot t ρ S) QT = wp (t ρ S) fun p => QT (!p.1, p.2) := by simp only [dNot, wp_map]
theorem w_and : wp (dAnd t t' ρ S) QT = wp (t ρ S) fun p => if p.1 then wp (t' ρ p.2) QT else QT (false, p.2) := by simp only [dAnd, wp_bind, wp_ite, wp_some]
theorem w_or : wp (dOr t t' ρ S) QT = wp (t ρ S) fun p => if p.1 then QT (true, p.2) else wp (t' ρ p.2) QT := by simp only [dOr, wp_bind, wp_ite, wp_some]
theorem w_andV : wp (dAndV a b ρ S) QD = wp (a ρ S) fun p => isB (fun k => if k then wp (b ρ p.2) QD else QD (.bl false, p.2)) p.1 := by
  simp only [dAndV, wp_bind]
  congr 1
  funext p
  rcases p with ⟨x, S⟩
  cases x with
  | bl k => cases k <;> simp [wp, isB]
  | _ => simp [wp, isB]
theorem w_orV : wp (dOrV a b ρ S) QD = wp (a ρ S) fun p => isB (fun k => if k then QD (.bl true, p.2) else wp (b ρ p.2) QD) p.1 := by
  simp only [dOrV, wp_bind]
  congr 1
  funext p
  rcases p with ⟨x, S⟩
  cases x with
  | bl k => cases k <;> simp [wp, isB]
  | _ => simp [wp, isB]
theorem w_ifE : wp (dIfE t a b ρ S) QD = wp (t ρ S) fun p => if p.1 then wp (a ρ p.2) QD else wp (b ρ p.2) QD := by simp only [dIfE, wp_bind, wp_ite]
/-! ### statements -/
def kSeq (b : DS) (Q : Out → Prop) : Out → Prop
  | .nx ρ S => wp (b ρ S) Q
  | o => Q o
theorem k_nx : kSeq s1 QO (.nx σ S) = wp (s1 σ S) QO := rfl
theorem k_rt : kSeq s1 QO (.rt x S) = QO (.rt x S) := rfl
theorem k_ro : kSeq s1 QO (.ro xs S) = QO (.ro xs S) := rfl
theorem k_bk : kSeq s1 QO (.bk σ S) = QO (.bk σ S) := rfl
theorem k_ct : kSeq s1 QO (.ct σ S) = QO (.ct σ S) := rfl
theorem w_seq : wp (sSeq s1 s2 σ S) QO = wp (s1 σ S) (kSeq s2 QO) := by
  simp only [sSeq, wp_bind]
  congr 1
  funext o
  cases o <;> simp [kSeq, wp]
theorem w_pass : wp (sPass σ S) QO = QO (.nx σ S) := wp_some
theorem w_brk : wp (sBrk σ S) QO = QO (.bk σ S) := wp_some
theorem w_cnt : wp (sCnt σ S) QO = QO (.ct σ S) := wp_some
theorem w_if : wp (sIf keep t s1 s2 σ S) QO = wp (t (fzE keep 0 σ) S) fun p => chk keep p.2 = true ∧ if p.1 then wp (s1 σ p.2) QO else wp (s2 σ p.2) QO := by
  simp only [sIf, wp_bind, wp_ite, wp_none]
  congr 1
  funext p
  split <;> simp [*]
theorem w_ret : wp (sRet keep a σ S) QO = wp (a (fzE keep 0 σ) S) fun p => QO (.rt p.1 p.2) := by simp only [sRet, wp_map]
theorem w_retN : wp (sRetN σ S) QO = QO (.rt .non S) := wp_some
theorem sRetO_s {n : Nat} {o : Sl} {f : Env2} : wp (sRetO (n + 1) (o :: f) S) QO = wp (sRetO n f S) QO := by simp only [sRetO, List.getElem?_cons_succ]
theorem sRetO_z {f : Env2} : wp (sRetO 0 (.own xs :: f) S) QO = QO (.ro xs S) := wp_some
theorem w_setF : wp (sSetF keep n a σ S) QO = wp (a (fzE keep 0 σ) S) fun p => QO (.nx ((frz keep 0 σ).set n (.val p.1)) p.2) := by simp only [sSetF, wp_map]
theorem w_setP : wp (sSetP keep n a σ S) QO = wp (a (fzE keep 0 σ) S) fun p => (chk keep p.2 && (pureD p.1 || keep.isEmpty)) = true ∧ QO (.nx (σ.set n (.val p.1)) p.2) := by simp only [sSetP, wp_bind, wp_iteN, wp_some]
theorem w_exp : wp (sExp keep a σ S) QO = wp (a (fzE keep 0 σ) S) fun p => chk keep p.2 = true ∧ QO (.nx σ p.2) := by simp only [sExp, wp_bind, wp_iteN, wp_some]
theorem w_setO : wp (sSetO keep n dn σ S) QO = wp (dn (fzE keep 0 σ) S) fun p => QO (.nx ((frz keep 0 σ).set n (.own p.1)) p.2) := by simp only [sSetO, wp_map]
theorem w_share : wp (sShare keep n dn σ S) QO = wp (dn (fzE keep 0 σ) S) fun p => QO (.nx ((frz keep 0 σ).set n (.val (.ref p.2.length))) (p.2 ++ [p.1])) := by simp only [sShare, wp_map]
/-- an own list changed -/
def kOwn (o : List D → Option (List D)) (n : Nat) (ρ : Env2) (S : Sh) (Q : Out → Prop) : Prop := match ρ[n]? with
  | some (.own ds) => wp (o ds) fun ds' => Q (.nx (ρ.set n (.own ds')) S)
  | _ => False
theorem w_appO {o : List D → D → Option (List D)} : wp (appO o n σ x S) QO = kOwn (fun ds => o ds x) n σ S QO := by
  unfold appO kOwn
  cases σ[n]? with
  | none => simp [wp_none]
  | some s => cases s <;> simp [wp_none, wp_map]
theorem kOwn_eq {o : List D → Option (List D)} {ds : List D} (h : σ[n]? = some (.own ds)) : kOwn o n σ S QO = wp (o ds) fun ds' => QO (.nx (σ.set n (.own ds')) S) := by
  unfold kOwn
  rw [h]
theorem w_mutF {o : List D → D → Option (List D)} : wp (sMutF o keep n a σ S) QO = wp (a (fzE keep 0 σ) S) fun p => kOwn (fun ds => o ds p.1) n (frz keep 0 σ) p.2 QO := by simp only [sMutF, wp_bind, w_appO]
theorem w_mutP {o : List D → D → Option (List D)} : wp (sMutP o keep n a σ S) QO = wp (a (fzE keep 0 σ) S) fun p => (chk keep p.2 && (pureD p.1 || keep.isEmpty)) = true ∧ kOwn (fun ds => o ds p.1) n σ p.2 QO := by simp only [sMutP, wp_bind, wp_iteN, w_appO]
/-! ### frames -/
theorem fzE_c {s : Sl} {r : Env2} : fzE keep n (s :: r) = fz1 (keep.contains n) s :: fzE keep (n + 1) r := rfl
theorem fzE_n : fzE keep n [] = [] := rfl
theorem frz_c {s : Sl} {r : Env2} : frz keep n (s :: r) = frz1 (keep.contains n) s :: frz keep (n + 1) r := rfl
theorem frz_n : frz keep n [] = [] := rfl
theorem fz1_no : fz1 u .no = none := rfl
theorem fz1_val : fz1 u (.val x) = some x := rfl
theorem fz1_own : fz1 true (.own xs) = some (.lst xs) := rfl
theorem fz1_ownF : fz1 false (.own xs) = none := rfl
theorem frz1_no : frz1 u .no = .no := rfl
theorem frz1_val : frz1 u (.val x) = .val x := rfl
theorem frz1_own : frz1 true (.own xs) = .val (.lst xs) := rfl
theorem frz1_F {s : Sl} : frz1 false s = s := by cases s <;> rfl
theorem frz1_ownF : frz1 false (.own xs) = .own xs := rfl
theorem chk_nil : chk [] S = true := rfl
end
end DL


namespace DL
open PySem L2
section
variable {α β : Type} {Q : α → Prop} {ρ : Env'} {σ : Env2} {S : Sh} {QD : D × Sh → Prop} {QT : Bool × Sh → Prop} {QN QA : List D × Sh → Prop} {QO : Out → Prop} {Q1 : D → Prop} {g : D → D → Option D} {g1 : D → Option D} {gc : List D → Option D}
  {a b c : DE} {t t' : DT} {da : DA} {dn : DN} {s1 s2 : DS} {keep : List Nat} {i j : Int} {n k : Nat} {x y z : D} {xs ys : List D} {u v w : Bool} {s s' : Str}
/-! ### readings -/
theorem o_add : wp (addD (.int i) (.int j)) Q1 = Q1 (.int (i + j)) := wp_some
theorem o_addS : wp (addD (.str s) (.str s')) Q1 = (s.length + s'.length ≤ sizeLine ∧ Q1 (.str (s ++ s'))) := by simp only [addD, wp_iteN, wp_some]
theorem o_addL : wp (addD (.lst xs) (.lst ys)) Q1 = (xs.length + ys.length ≤ sizeLine ∧ Q1 (.lst (xs ++ ys))) := by simp only [addD, wp_iteN, wp_some]
theorem o_addT : wp (addD (.tup xs) (.tup ys)) Q1 = (xs.length + ys.length ≤ sizeLine ∧ Q1 (.tup (xs ++ ys))) := by simp only [addD, wp_iteN, wp_some]
theorem o_sub : wp (subD (.int i) (.int j)) Q1 = Q1 (.int (i - j)) := wp_some
theorem o_mul : wp (mulD (.int i) (.int j)) Q1 = (mulOk i j = true ∧ Q1 (.int (i * j))) := by simp only [mulD, wp_iteN, wp_some]
theorem o_fdiv : wp (fdivD (.int i) (.int j)) Q1 = ((j ≠ 0 ∧ j.natAbs.log2 < 9000) ∧ Q1 (.int (i.fdiv j))) := by simp only [fdivD, wp_iteN, wp_some]
theorem o_mod : wp (modD (.int i) (.int j)) Q1 = (j ≠ 0 ∧ Q1 (.int (i.fmod j))) := by simp only [modD, wp_iteN, wp_some]
theorem o_pow : wp (powD (.int i) (.int j)) Q1 = ((0 ≤ j ∧ j ≤ 1000000 ∧ i.natAbs < 2 ^ 64) ∧ Q1 (.int (i ^ j.toNat))) := by simp only [powD, wp_iteN, wp_some]
theorem o_shl : wp (shlD (.int i) (.int j)) Q1 = ((0 ≤ j ∧ j ≤ 1000000 ∧ i.natAbs < 2 ^ 64) ∧ Q1 (.int (i * 2 ^ j.toNat))) := by simp only [shlD, wp_iteN, wp_some]
theorem o_neg : wp (negD (.int i)) Q1 = Q1 (.int (-i)) := wp_some
theorem o_eq : wp (eqO x y) Q1 = ((eqOk 60 x = true ∧ eqOk 60 y = true) ∧ Q1 (.bl (eqD x y))) := by simp only [eqO, wp_iteN, wp_some]
theorem o_ne : wp (neO x y) Q1 = ((eqOk 60 x = true ∧ eqOk 60 y = true) ∧ Q1 (.bl (!eqD x y))) := by simp only [neO, wp_iteN, wp_some]
theorem o_eqI : wp (eqO (.int i) (.int j)) Q1 = Q1 (.bl (decide (i = j))) := by
  rw [o_eq]
  simp only [eqOk, eqD, and_self, true_and]
  rfl
theorem o_neI : wp (neO (.int i) (.int j)) Q1 = Q1 (.bl (!decide (i = j))) := by
  rw [o_ne]
  simp only [eqOk, eqD, and_self, true_and]
  rfl
theorem o_eqS : wp (eqO (.str s) (.str s')) Q1 = Q1 (.bl (s == s')) := by
  rw [o_eq]
  simp only [eqOk, eqD, and_self, true_and]
theorem o_neS : wp (neO (.str s) (.str s')) Q1 = Q1 (.bl (!(s == s'))) := by
  rw [o_ne]
  simp only [eqOk, eqD, and_self, true_and]
theorem o_eqB : wp (eqO (.bl u) (.bl v)) Q1 = Q1 (.bl (u == v)) := by
  rw [o_eq]
  simp only [eqOk, eqD, and_self, true_and]
theorem o_neB : wp (neO (.bl u) (.bl v)) Q1 = Q1 (.bl (!(u == v))) := by
  rw [o_ne]
  simp only [eqOk, eqD, and_self, true_and]
theorem o_lt : wp (ltO (.int i) (.int j)) Q1 = Q1 (.bl (decide (i < j))) := wp_some
theorem o_le : wp (leO (.int i) (.int j)) Q1 = Q1 (.bl (decide (i ≤ j))) := wp_some
theorem o_gt : wp (gtO (.int i) (.int j)) Q1 = Q1 (.bl (decide (j < i))) := wp_some
theorem o_ge : wp (geO (.int i) (.int j)) Q1 = Q1 (.bl (decide (j ≤ i))) := wp_some
theorem o_is : wp (isO x .non) Q1 = Q1 (.bl (isNon x)) := wp_some
theorem o_isn : wp (isnO x .non) Q1 = Q1 (.bl (!isNon x)) := wp_some
theorem o_in : wp (inO x y) Q1 = wp (inB x y) fun k => Q1 (.bl k) := by simp only [inO, wp_map]
theorem o_nin : wp (ninO x y) Q1 = wp (inB x y) fun k => Q1 (.bl (!k)) := by simp only [ninO, wp_map]
theorem o_inL {Q : Bool → Prop} : wp (inB x (.lst ys)) Q = ((eqOk 60 x = true ∧ eqOks 60 ys = true) ∧ Q (ys.any fun z => eqD z x)) := by simp only [inB, seqD, wp_iteN, wp_some]
theorem o_inT {Q : Bool → Prop} : wp (inB x (.tup ys)) Q = ((eqOk 60 x = true ∧ eqOks 60 ys = true) ∧ Q (ys.any fun z => eqD z x)) := by simp only [inB, seqD, wp_iteN, wp_some]
theorem o_inR {Q : Bool → Prop} : wp (inB x (.rol ys)) Q = ((eqOk 60 x = true ∧ eqOks 60 ys = true) ∧ Q (ys.any fun z => eqD z x)) := by simp only [inB, seqD, wp_iteN, wp_some]
theorem o_inS {Q : Bool → Prop} : wp (inB (.str s) (.str s')) Q = Q (strIn s s') := by simp only [inB, wp_some]
theorem o_idxL : wp (idxD (.lst xs) (.int i)) Q1 = wp (atI xs i) Q1 := rfl
theorem o_idxT : wp (idxD (.tup xs) (.int i)) Q1 = wp (atI xs i) Q1 := rfl
theorem o_idxR : wp (idxD (.rol xs) (.int i)) Q1 = wp (atI xs i) Q1 := rfl
theorem atI_nat {xs : List α} : atI xs (n : Int) = xs[n]? := by
  unfold atI ixN
  have e : ¬ ((n : Int) < 0) := by omega
  by_cases h : n < xs.length
  · simp [h, e]
  · simp [h, e, List.getElem?_eq_none (show xs.length ≤ n by omega)]
theorem o_abs : wp (absO [.int i]) Q1 = Q1 (.int (if i < 0 then -i else i)) := wp_some
theorem o_int : wp (intO [.int i]) Q1 = Q1 (.int i) := wp_some
theorem o_intB : wp (intO [.bl u]) Q1 = Q1 (.int (if u then 1 else 0)) := wp_some
theorem o_gcd : wp (gcdO [.int i, .int j]) Q1 = Q1 (.int ((Nat.gcd i.natAbs j.natAbs : Nat) : Int)) := wp_some
theorem o_tupL : wp (tupleO [.lst xs]) Q1 = Q1 (.tup xs) := wp_some
theorem o_tupT : wp (tupleO [.tup xs]) Q1 = Q1 (.tup xs) := wp_some
theorem o_tupR : wp (tupleO [.rol xs]) Q1 = Q1 (.tup xs) := wp_some
theorem o_bits : wp (bitsD (.int i)) Q1 = Q1 (.int (Builtin.Int.intBits i)) := wp_some
theorem is_non {ns : List String} : wp (isiD ns .non) Q1 = Q1 (.bl (ns.any fun n => isTy "NoneType" n)) := wp_some
theorem is_bl {ns : List String} : wp (isiD ns (.bl u)) Q1 = Q1 (.bl (ns.any fun n => isTy "bool" n)) := wp_some
theorem is_int {ns : List String} : wp (isiD ns (.int i)) Q1 = Q1 (.bl (ns.any fun n => isTy "int" n)) := wp_some
theorem is_str {ns : List String} : wp (isiD ns (.str s)) Q1 = Q1 (.bl (ns.any fun n => isTy "str" n)) := wp_some
theorem is_tup {ns : List String} : wp (isiD ns (.tup xs)) Q1 = Q1 (.bl (ns.any fun n => isTy "tuple" n)) := wp_some
theorem is_lst {ns : List String} : wp (isiD ns (.lst xs)) Q1 = Q1 (.bl (ns.any fun n => isTy "list" n)) := wp_some
theorem q_lst {Q : List D → Prop} : wp (seqD (.lst xs)) Q = Q xs := wp_some
theorem q_rol {Q : List D → Prop} : wp (seqD (.rol xs)) Q = Q xs := wp_some
theorem q_tup {Q : List D → Prop} : wp (seqD (.tup xs)) Q = Q xs := wp_some
theorem it_lst {Q : List D → Prop} : wp (itemsD (.lst xs)) Q = Q xs := wp_some
theorem it_rol {Q : List D → Prop} : wp (itemsD (.rol xs)) Q = Q xs := wp_some
theorem it_tup {Q : List D → Prop} : wp (itemsD (.tup xs)) Q = Q xs := wp_some
theorem it_str {Q : List D → Prop} : wp (itemsD (.str s)) Q = Q (s.cps.toList.map fun c => .str ⟨#[c]⟩) := wp_some
theorem rg1 {Q : List D → Prop} : wp (rng1O [.int j]) Q = ((-(2 ^ 62) ≤ j ∧ j < 2 ^ 62) ∧ Q (rngO 0 j.toNat)) := by simp only [rng1O, wp_iteN, wp_some]
theorem rg2 {Q : List D → Prop} : wp (rng2O [.int i, .int j]) Q = ((-(2 ^ 62) ≤ i ∧ i < 2 ^ 62 ∧ -(2 ^ 62) ≤ j ∧ j < 2 ^ 62) ∧ Q (rngO i (j - i).toNat)) := by simp only [rng2O, wp_iteN, wp_some]
theorem w_len : wp (dLen a ρ S) QD = wp (a ρ S) fun p => match p.1 with
  | .ref i => wp (p.2[i]?) fun ds => QD (.int ds.length, p.2)
  | x => wp (lenD x) fun z => QD (z, p.2) := by
  simp only [dLen, wp_bind]
  congr 1
  funext p
  rcases p with ⟨x, S⟩
  cases x <;> simp only [wp_map]
theorem l_lst : wp (lenD (.lst xs)) Q1 = Q1 (.int xs.length) := wp_some
theorem l_rol : wp (lenD (.rol xs)) Q1 = Q1 (.int xs.length) := wp_some
theorem l_tup : wp (lenD (.tup xs)) Q1 = Q1 (.int xs.length) := wp_some
theorem l_str : wp (lenD (.str s)) Q1 = (s.length ≤ sizeLine ∧ Q1 (.int s.length)) := by simp only [lenD, wp_iteN, wp_some]
theorem w_popS : wp (dPopS a ρ S) QD = wp (a ρ S) fun p => match p.1 with
  | .ref i => wp (p.2[i]?) fun ds => wp (ds[ds.length - 1]?) fun x => QD (x, p.2.set i ds.dropLast)
  | _ => False := by
  simp only [dPopS, wp_bind]
  congr 1
  funext p
  rcases p with ⟨x, S⟩
  cases x <;> simp only [wp_map, wp_none, wp_bind]
/-! ### functions -/
def kD (Q : D × Sh → Prop) : Out → Prop
  | .rt d S => Q (d, S)
  | .nx _ S => Q (.non, S)
  | .ro l S => Q (.lst l, S)
  | _ => False
theorem kD_rt : kD QD (.rt x S) = QD (x, S) := rfl
theorem kD_nx : kD QD (.nx σ S) = QD (.non, S) := rfl
theorem kD_ro : kD QD (.ro xs S) = QD (.lst xs, S) := rfl
def kN (Q : List D × Sh → Prop) : Out → Prop
  | .ro l S => Q (l, S)
  | _ => False
theorem kN_ro : kN QA (.ro xs S) = QA (xs, S) := rfl
theorem w_fnD {np n : Nat} {body : DS} : wp (fnD np n body xs S) QD = (xs.length = np ∧ wp (body (envOf n xs) S) (kD QD)) := by
  simp only [fnD, wp_iteN, wp_bind]
  congr 1
  congr 1
  funext o
  cases o <;> simp [outD, kD, wp]
theorem w_fnN {np n : Nat} {body : DS} : wp (fnN np n body xs S) QA = (xs.length = np ∧ wp (body (envOf n xs) S) (kN QA)) := by
  simp only [fnN, wp_iteN, wp_bind]
  congr 1
  congr 1
  funext o
  cases o <;> simp [outN, kN, wp]
/-! ### loops -/
theorem w_for {it : DN} {tg : Tg} {body : DS} : wp (sFor keep it tg body σ S) QO = wp (it (fzE keep 0 σ) S) fun p => wp (loopF tg body p.1 (frz keep 0 σ) p.2) QO := by simp only [sFor, wp_bind]
theorem w_forP {it : DN} {tg : Tg} {body : DS} : wp (sForP keep it tg body σ S) QO = wp (it (fzE keep 0 σ) S) fun p => chk keep p.2 = true ∧ wp (loopF tg body p.1 σ p.2) QO := by simp only [sForP, wp_bind, wp_iteN]
/-- a loop over one name, by invariant: what is done, what is left -/
theorem loop_n {body : DS} {n : Nat} (I : List D → Env2 → Sh → Prop) (QO : Out → Prop) :
    ∀ (xs : List D) (σ : Env2) (S : Sh), I xs σ S →
    (∀ x r σ S, I (x :: r) σ S → wp (body (σ.set n (.val x)) S) fun o => match o with
      | .nx σ' S' => I r σ' S'
      | .ct σ' S' => I r σ' S'
      | .bk σ' S' => QO (.nx σ' S')
      | o => QO o) → (∀ σ S, I [] σ S → QO (.nx σ S)) → wp (loopF (.n n) body xs σ S) QO
  | [], σ, S, h, hb, he => wp_ok rfl (he σ S h)
  | x :: r, σ, S, h, hb, he => by
    rw [loopF, bindT, Option.bind_some, wp_bind]
    refine wp_mono (hb x r σ S h) fun o q => ?_
    cases o with
    | nx σ' S' => exact loop_n I QO r σ' S' q hb he
    | ct σ' S' => exact loop_n I QO r σ' S' q hb he
    | bk σ' S' => exact wp_ok rfl q
    | rt d S' => exact wp_ok rfl q
    | ro d S' => exact wp_ok rfl q
theorem w_comp {it : DN} {tg : Tg} {vs : List Nat} {tt : DT} {el : DE} : wp (nComp it tg vs tt el ρ S) QA = wp (it ρ S) fun p => wp (loopC tg tt el (wipeD ρ vs) p.1 [] p.2) QA := by simp only [nComp, wp_bind]
theorem comp_map {tg : Tg} {tt : DT} {el : DE} (f : D → D) : ∀ (xs acc : List D), (∀ d, d ∈ xs → ∃ u, bindT tg d = some u ∧ tt (putD ρ u) S = some (true, S) ∧ el (putD ρ u) S = some (f d, S)) → acc.length + xs.length ≤ sizeLine →
    loopC tg tt el ρ xs acc S = some (acc ++ xs.map f, S)
  | [], acc, h, l => by simp [loopC]
  | d :: r, acc, h, l => by
    obtain ⟨u, e1, e2, e3⟩ := h d (by simp)
    simp only [List.length_cons] at l
    rw [loopC, e1, Option.bind_some, e2, Option.bind_some]
    simp only [if_true, e3, Option.bind_some]
    rw [if_pos (by omega), comp_map f r _ (fun d hd => h d (by simp [hd])) (by simp; omega)]
    simp
theorem comp_filter {tg : Tg} {tt : DT} {el : DE} (f : D → D) (p : D → Bool) : ∀ (xs acc : List D), (∀ d, d ∈ xs → ∃ u, bindT tg d = some u ∧ tt (putD ρ u) S = some (p d, S) ∧ (p d = true → el (putD ρ u) S = some (f d, S))) → acc.length + xs.length ≤ sizeLine →
    loopC tg tt el ρ xs acc S = some (acc ++ (xs.filter p).map f, S)
  | [], acc, h, l => by simp [loopC]
  | d :: r, acc, h, l => by
    obtain ⟨u, e1, e2, e3⟩ := h d (by simp)
    simp only [List.length_cons] at l
    rw [loopC, e1, Option.bind_some, e2, Option.bind_some]
    by_cases hp : p d = true
    · simp only [hp, if_true, e3 hp, Option.bind_some]
      rw [if_pos (by omega), comp_filter f p r _ (fun d hd => h d (by simp [hd])) (by simp; omega)]
      simp [hp]
    · simp only [hp, if_false, Bool.false_eq_true]
      rw [comp_filter f p r _ (fun d hd => h d (by simp [hd])) (by omega)]
      simp [hp]
/-- with a store: by invariant -/
theorem comp_inv {tg : Tg} {tt : DT} {el : DE} (I : List D → List D → Sh → Prop) : ∀ (xs acc : List D) (S : Sh), I xs acc S → (∀ d r acc S, I (d :: r) acc S → ∃ u, bindT tg d = some u ∧ wp (tt (putD ρ u) S) fun p =>
    if p.1 then wp (el (putD ρ u) p.2) fun q => acc.length < sizeLine ∧ I r (acc ++ [q.1]) q.2 else I r acc p.2) → (∀ acc S, I [] acc S → QA (acc, S)) → wp (loopC tg tt el ρ xs acc S) QA
  | [], acc, S, i, h, e => wp_ok rfl (e acc S i)
  | d :: r, acc, S, i, h, e => by
    obtain ⟨u, e1, e2⟩ := h d r acc S i
    rw [loopC, e1, Option.bind_some, wp_bind]
    refine wp_mono e2 fun p hp => ?_
    split at hp
    · rename_i q
      simp only [q, if_true, wp_bind]
      refine wp_mono hp fun z hz => ?_
      rw [if_pos hz.1]
      exact comp_inv I r _ _ hz.2 h e
    · rename_i q
      simp only [q, if_false, Bool.false_eq_true]
      exact comp_inv I r _ _ hp h e
theorem w_own0 {o : List D → List D} : wp (sOwn0 o n σ S) QO = kOwn (fun ds => some (o ds)) n σ S QO := by
  unfold sOwn0 kOwn
  cases σ[n]? with
  | none => simp [wp_none]
  | some s => cases s <;> simp [wp_none, wp_some]
/-- an item of an own list stored -/
def kSetI (n : Nat) (σ : Env2) (x : D) (ix : D) (S : Sh) (QO : Out → Prop) : Prop := wp (setIO n σ x ix S) QO
theorem kSetI_eq {ds : List D} (h : σ[n]? = some (.own ds)) (hk : k < ds.length) : kSetI n σ x (.int (k : Int)) S QO = QO (.nx (σ.set n (.own (ds.set k x))) S) := by
  unfold kSetI setIO
  rw [h]
  have e : ¬ ((k : Int) < 0) := by omega
  simp [ixN, hk, e, wp_some, wp_map]
theorem w_setIP {keep2 : List Nat} {ix : DE} : wp (sSetIP keep keep2 n a ix σ S) QO = wp (a (fzE keep 0 σ) S) fun p => (chk keep p.2 && (pureD p.1 || keep.isEmpty)) = true ∧ wp (ix (fzE keep2 0 σ) p.2) fun q => chk keep2 q.2 = true ∧ kSetI n σ p.1 q.1 q.2 QO := by
  simp only [sSetIP, wp_bind, wp_iteN, kSetI]
end
end DL


namespace DL
open PySem L2
section
variable {ρ : Env'} {σ : Env2} {S : Sh} {QO : Out → Prop} {a : DE} {keep : List Nat} {n : Nat} {x : D} {xs : List D} {tg : Tg} {gs : List Tg} {QU : List (Nat × D) → Prop} {u : List (Nat × D)} {Q : List D → Prop}
theorem ite_F {c P : Prop} [Decidable c] : (if c then P else False) = (c ∧ P) := by split <;> simp [*]
theorem w_setT : wp (sSetT keep tg a σ S) QO = wp (a (fzE keep 0 σ) S) fun p => wp (bindT tg p.1) fun u => QO (.nx (putS (frz keep 0 σ) u) p.2) := by simp only [sSetT, wp_bind, wp_map]
theorem b_n : wp (bindT (.n n) x) QU = QU [(n, x)] := by rw [bindT, wp_some]
theorem b_t : wp (bindT (.t gs) (.tup xs)) QU = wp (bindTs gs xs) QU := by rw [bindT]
theorem b_nil : wp (bindTs [] []) QU = QU [] := by rw [bindTs, wp_some]
theorem b_cons : wp (bindTs (tg :: gs) (x :: xs)) QU = wp (bindT tg x) fun u => wp (bindTs gs xs) fun w => QU (u ++ w) := by rw [bindTs, wp_bind]; simp only [wp_map]
theorem putS_n : putS σ [] = σ := rfl
theorem putS_c : putS σ ((n, x) :: u) = putS (σ.set n (.val x)) u := rfl
theorem o_at0 {Q : D → Prop} : wp (atI (x :: xs) 0) Q = Q x := by
  rw [show (0 : Int) = ((0 : Nat) : Int) from rfl, DL.atI_nat]; exact wp_some
theorem o_at1 {x0 : D} {Q : D → Prop} : wp (atI (x0 :: x :: xs) 1) Q = Q x := by
  rw [show (1 : Int) = ((1 : Nat) : Int) from rfl, DL.atI_nat]; exact wp_some
theorem o_at2 {x0 x1 : D} {Q : D → Prop} : wp (atI (x0 :: x1 :: x :: xs) 2) Q = Q x := by
  rw [show (2 : Int) = ((2 : Nat) : Int) from rfl, DL.atI_nat]; exact wp_some
theorem o_at3 {x0 x1 x2 : D} {Q : D → Prop} : wp (atI (x0 :: x1 :: x2 :: x :: xs) 3) Q = Q x := by
  rw [show (3 : Int) = ((3 : Nat) : Int) from rfl, DL.atI_nat]; exact wp_some
theorem o_at4 {x0 x1 x2 x3 : D} {Q : D → Prop} : wp (atI (x0 :: x1 :: x2 :: x3 :: x :: xs) 4) Q = Q x := by
  rw [show (4 : Int) = ((4 : Nat) : Int) from rfl, DL.atI_nat]; exact wp_some
theorem w_append : wp (appendO xs x) Q = (xs.length < sizeLine ∧ Q (xs ++ [x])) := by simp only [appendO, wp_iteN, wp_some]
/-! ### loops over lists known to their length -/
def kLoop (tg : Tg) (body : DS) (xs : List D) (Q : Out → Prop) : Out → Prop
  | .nx ρ S => wp (loopF tg body xs ρ S) Q
  | .ct ρ S => wp (loopF tg body xs ρ S) Q
  | .bk ρ S => Q (.nx ρ S)
  | o => Q o
variable {body : DS} {QA : List D × Sh → Prop} {tt : DT} {el : DE} {acc : List D}
theorem kL_nx : kLoop tg body xs QO (.nx σ S) = wp (loopF tg body xs σ S) QO := rfl
theorem kL_ct : kLoop tg body xs QO (.ct σ S) = wp (loopF tg body xs σ S) QO := rfl
theorem kL_bk : kLoop tg body xs QO (.bk σ S) = QO (.nx σ S) := rfl
theorem kL_rt {d : D} : kLoop tg body xs QO (.rt d S) = QO (.rt d S) := rfl
theorem kL_ro {d : List D} : kLoop tg body xs QO (.ro d S) = QO (.ro d S) := rfl
theorem lp_n : wp (loopF tg body [] σ S) QO = QO (.nx σ S) := wp_some
theorem lp_c : wp (loopF tg body (x :: xs) σ S) QO = wp (bindT tg x) fun u => wp (body (putS σ u) S) (kLoop tg body xs QO) := by
  rw [loopF, wp_bind]
  congr 1
  funext u
  rw [wp_bind]
  congr 1
  funext o
  cases o <;> simp [kLoop, wp]
theorem lc_n : wp (loopC tg tt el ρ [] acc S) QA = QA (acc, S) := wp_some
theorem lc_c : wp (loopC tg tt el ρ (x :: xs) acc S) QA = wp (bindT tg x) fun u => wp (tt (putD ρ u) S) fun p => if p.1 then wp (el (putD ρ u) p.2) fun q => acc.length < sizeLine ∧ wp (loopC tg tt el ρ xs (acc ++ [q.1]) q.2) QA else wp (loopC tg tt el ρ xs acc p.2) QA := by
  rw [loopC, wp_bind]
  simp only [wp_bind, wp_ite, wp_none, ite_F]
theorem putD_n : putD ρ [] = ρ := rfl
theorem putD_c : putD ρ ((n, x) :: u) = putD (ρ.set n (some x)) u := rfl
theorem wipe_n : wipeD ρ [] = ρ := rfl
theorem wipe_c {vs : List Nat} : wipeD ρ (n :: vs) = (wipeD ρ vs).set n none := rfl
end
end DL


namespace G
open PySem L2 PyProof.Rows DL
def topS (i : Nat) : Stmt := PySem.Challenge.pw_rightchance_k05_whole_laws_of_fractions.main.body.getD i (.Pass ⟨0, 0, 0, 0⟩)
abbrev s_make_share : Stmt := topS 5
abbrev N_make_share : List Str := ["n", "d", "divisor"]
theorem sc_make_share : FnScope N_make_share ["n", "d"] (defScope s_make_share) := ⟨rfl, rfl, rfl, by decide +kernel, rfl, by decide +kernel, by decide +kernel⟩
abbrev s_is_share : Stmt := topS 6
abbrev N_is_share : List Str := ["pair", "n", "d"]
theorem sc_is_share : FnScope N_is_share ["pair"] (defScope s_is_share) := ⟨rfl, rfl, rfl, by decide +kernel, rfl, by decide +kernel, by decide +kernel⟩
abbrev s_plus : Stmt := topS 7
abbrev N_plus : List Str := ["share", "other"]
theorem sc_plus : FnScope N_plus ["share", "other"] (defScope s_plus) := ⟨rfl, rfl, rfl, by decide +kernel, rfl, by decide +kernel, by decide +kernel⟩
abbrev s_times : Stmt := topS 8
abbrev N_times : List Str := ["share", "other"]
theorem sc_times : FnScope N_times ["share", "other"] (defScope s_times) := ⟨rfl, rfl, rfl, by decide +kernel, rfl, by decide +kernel, by decide +kernel⟩
abbrev s_compare_shares : Stmt := topS 9
abbrev N_compare_shares : List Str := ["share", "other", "left", "right"]
theorem sc_compare_shares : FnScope N_compare_shares ["share", "other"] (defScope s_compare_shares) := ⟨rfl, rfl, rfl, by decide +kernel, rfl, by decide +kernel, by decide +kernel⟩
abbrev s_rest_of : Stmt := topS 10
abbrev N_rest_of : List Str := ["chance"]
theorem sc_rest_of : FnScope N_rest_of ["chance"] (defScope s_rest_of) := ⟨rfl, rfl, rfl, by decide +kernel, rfl, by decide +kernel, by decide +kernel⟩
abbrev s_product_of : Stmt := topS 11
abbrev N_product_of : List Str := ["shares", "product", "share"]
theorem sc_product_of : FnScope N_product_of ["shares"] (defScope s_product_of) := ⟨rfl, rfl, rfl, by decide +kernel, rfl, by decide +kernel, by decide +kernel⟩
abbrev s_any_of : Stmt := topS 12
abbrev N_any_of : List Str := ["chances", "chance"]
theorem sc_any_of : FnScope N_any_of ["chances"] (defScope s_any_of) := ⟨rfl, rfl, rfl, by decide +kernel, rfl, by decide +kernel, by decide +kernel⟩
abbrev s_law_draws : Stmt := topS 14
abbrev N_law_draws : List Str := ["_law_script", "_law_many", "_law_cells", "_law_rest", "_law_draws_here", "_law_k", "_law_at", "_law_cell", "_law_mixed"]
theorem sc_law_draws : FnScope N_law_draws ["_law_script", "_law_many"] (defScope s_law_draws) := ⟨rfl, rfl, rfl, by decide +kernel, rfl, by decide +kernel, by decide +kernel⟩
abbrev s_law_take : Stmt := topS 15
abbrev N_law_take : List Str := ["_law_draws_here", "_law_many"]
theorem sc_law_take : FnScope N_law_take ["_law_draws_here", "_law_many"] (defScope s_law_take) := ⟨rfl, rfl, rfl, by decide +kernel, rfl, by decide +kernel, by decide +kernel⟩
abbrev s_law_size : Stmt := topS 16
abbrev N_law_size : List Str := ["_law_draws_here", "_law_script", "_law_kind", "_law_number", "_law_k"]
theorem sc_law_size : FnScope N_law_size ["_law_draws_here", "_law_script"] (defScope s_law_size) := ⟨rfl, rfl, rfl, by decide +kernel, rfl, by decide +kernel, by decide +kernel⟩
abbrev s_law_same : Stmt := topS 17
abbrev N_law_same : List Str := ["_law_actual", "_law_due", "_law_k"]
theorem sc_law_same : FnScope N_law_same ["_law_actual", "_law_due"] (defScope s_law_same) := ⟨rfl, rfl, rfl, by decide +kernel, rfl, by decide +kernel, by decide +kernel⟩
abbrev s_law_share : Stmt := topS 18
abbrev N_law_share : List Str := ["_law_n", "_law_d", "_law_a", "_law_b", "_law_k", "_law_rest"]
theorem sc_law_share : FnScope N_law_share ["_law_n", "_law_d"] (defScope s_law_share) := ⟨rfl, rfl, rfl, by decide +kernel, rfl, by decide +kernel, by decide +kernel⟩
abbrev s_law_short : Stmt := topS 19
abbrev N_law_short : List Str := ["_law_script", "_law_cell"]
theorem sc_law_short : FnScope N_law_short ["_law_script"] (defScope s_law_short) := ⟨rfl, rfl, rfl, by decide +kernel, rfl, by decide +kernel, by decide +kernel⟩
abbrev s_law_any_share : Stmt := topS 20
abbrev N_law_any_share : List Str := ["_law_draws_here", "_law_script", "_law_short_here", "_law_n", "_law_d", "_law_kind"]
theorem sc_law_any_share : FnScope N_law_any_share ["_law_draws_here", "_law_script"] (defScope s_law_any_share) := ⟨rfl, rfl, rfl, by decide +kernel, rfl, by decide +kernel, by decide +kernel⟩
abbrev s_law_any_chance : Stmt := topS 21
abbrev N_law_any_chance : List Str := ["_law_draws_here", "_law_script", "_law_short_here", "_law_n", "_law_more", "_law_kind"]
theorem sc_law_any_chance : FnScope N_law_any_chance ["_law_draws_here", "_law_script"] (defScope s_law_any_chance) := ⟨rfl, rfl, rfl, by decide +kernel, rfl, by decide +kernel, by decide +kernel⟩
abbrev s_law_kept_orders : Stmt := topS 22
abbrev N_law_kept_orders : List Str := ["_law_a", "_law_b", "_law_c", "_law_order"]
theorem sc_law_kept_orders : FnScope N_law_kept_orders ["_law_a", "_law_b", "_law_c"] (defScope s_law_kept_orders) := ⟨rfl, rfl, rfl, by decide +kernel, rfl, by decide +kernel, by decide +kernel⟩
abbrev s_law_misses : Stmt := topS 23
abbrev N_law_misses : List Str := ["_law_p", "_law_q", "_law_r", "_law_both"]
theorem sc_law_misses : FnScope N_law_misses ["_law_p", "_law_q", "_law_r"] (defScope s_law_misses) := ⟨rfl, rfl, rfl, by decide +kernel, rfl, by decide +kernel, by decide +kernel⟩
abbrev s_law : Stmt := topS 24
abbrev N_law : List Str := ["_law_script", "_law_draws_here", "_law_a", "_law_b", "_law_c", "_law_pairs", "_law_pair"]
theorem sc_law : FnScope N_law ["_law_script"] (defScope s_law) := ⟨rfl, rfl, rfl, by decide +kernel, rfl, by decide +kernel, by decide +kernel⟩
def b_make_share  : DS := (sSeq (sIf [] (dOr (dtE (d2 eqO (dV 1) (dC (.int 0)))) (dtE (d2 ltO (d2 mulD (dV 0) (dV 1)) (dC (.int 0))))) sNever sPass)
  (sSeq (sSetF [] 2 (dCall gcdO (dCons (dV 0) (dCons (dV 1) dNil))))
  (sRet [] (dTup (dCons (d2 fdivD (dCall absO (dCons (dV 0) dNil)) (dV 2)) (dCons (d2 fdivD (dCall absO (dCons (dV 1) dNil)) (dV 2)) dNil))))))
def m_make_share : DF := fnD 2 3 b_make_share
def b_is_share  : DS := (sSeq (sSetT [] (.t [(.n 1), (.n 2)]) (dV 0))
  (sRet [] (dAndV (d2 geO (dV 1) (dC (.int 0))) (dAndV (d2 geO (dV 2) (dC (.int 1))) (d2 eqO (dCall gcdO (dCons (dV 1) (dCons (dV 2) dNil))) (dC (.int 1)))))))
def m_is_share : DF := fnD 1 3 b_is_share
def b_plus  : DS := (sRet [] (dFn 2 m_make_share (dCons (d2 addD (d2 mulD (d2 idxD (dV 0) (dC (.int 0))) (d2 idxD (dV 1) (dC (.int 1)))) (d2 mulD (d2 idxD (dV 1) (dC (.int 0))) (d2 idxD (dV 0) (dC (.int 1))))) (dCons (d2 mulD (d2 idxD (dV 0) (dC (.int 1))) (d2 idxD (dV 1) (dC (.int 1)))) dNil))))
def m_plus : DF := fnD 2 2 b_plus
def b_times  : DS := (sRet [] (dFn 2 m_make_share (dCons (d2 mulD (d2 idxD (dV 0) (dC (.int 0))) (d2 idxD (dV 1) (dC (.int 0)))) (dCons (d2 mulD (d2 idxD (dV 0) (dC (.int 1))) (d2 idxD (dV 1) (dC (.int 1)))) dNil))))
def m_times : DF := fnD 2 2 b_times
def b_compare_shares  : DS := (sSeq (sSetF [] 2 (d2 mulD (d2 idxD (dV 0) (dC (.int 0))) (d2 idxD (dV 1) (dC (.int 1)))))
  (sSeq (sSetF [] 3 (d2 mulD (d2 idxD (dV 1) (dC (.int 0))) (d2 idxD (dV 0) (dC (.int 1)))))
  (sSeq (sIf [] (dtE (d2 eqO (dV 2) (dV 3))) (sRet [] (dC (.int 0))) sPass)
  (sRet [] (dIfE (dtE (d2 ltO (dV 2) (dV 3))) (d1 negD (dC (.int 1))) (dC (.int 1)))))))
def m_compare_shares : DF := fnD 2 4 b_compare_shares
def b_rest_of  : DS := (sRet [] (dTup (dCons (d2 subD (d2 idxD (dV 0) (dC (.int 1))) (d2 idxD (dV 0) (dC (.int 0)))) (dCons (d2 idxD (dV 0) (dC (.int 1))) dNil))))
def m_rest_of : DF := fnD 1 1 b_rest_of
abbrev l_product_of_1  : DS := (sSetF [] 1 (dFn 2 m_times (dCons (dV 1) (dCons (dV 2) dNil))))
def b_product_of  : DS := (sSeq (sSetF [] 1 (dTup (dCons (dC (.int 1)) (dCons (dC (.int 1)) dNil))))
  (sSeq (sFor [] (iSeq (dV 0)) (.n 2) l_product_of_1)
  (sRet [] (dV 1))))
def m_product_of : DF := fnD 1 3 b_product_of
def b_any_of  : DS := (sRet [] (dFn 1 m_rest_of (dCons (dFn 1 m_product_of (dCons (dFz (nComp (iSeq (dV 0)) (.n 1) [1] dtYes (dFn 1 m_rest_of (dCons (dV 1) dNil)))) dNil)) dNil)))
def m_any_of : DF := fnD 1 2 b_any_of
abbrev l_law_draws_1  : DS := (sSeq (sSetF [2] 6 (d2 modD (dV 5) (dLen (dV 2))))
  (sIf [2] (dtE (d2 geO (d2 idxD (dV 2) (dV 6)) (d2 powD (dC (.int 10)) (dC (.int 18))))) (sSeq (sMutP appendO [3] 4 (d2 modD (dCall intO (dCons (d2 idxD (dV 3) (dV 6)) dNil)) (dC (.int 1000))))
  (sSetIP [3] [] 3 (d2 fdivD (d2 idxD (dV 3) (dV 6)) (dC (.int 1000))) (dV 6))) (sSeq (sSetF [2] 8 (d2 modD (dCall intO (dCons (d2 addD (d2 addD (d2 mulD (d2 idxD (dV 2) (dV 6)) (dC (.int 48271))) (d2 mulD (dV 5) (dC (.int 69621)))) (dC (.int 11))) dNil)) (dC (.int 2147483647))))
  (sMutF appendO [] 4 (d2 modD (dCall intO (dCons (d2 addD (d2 addD (d2 mulD (dV 8) (dV 8)) (d2 mulD (dC (.int 3)) (dV 8))) (dV 5)) dNil)) (dC (.int 1000003)))))))
def b_law_draws  : DS := (sSeq (sSetO [] 2 (nComp (iSeq (dV 0)) (.n 7) [7] dtYes (dCall intO (dCons (dV 7) dNil))))
  (sSeq (sIf [2] (dtE (d2 eqO (dLen (dV 2)) (dC (.int 0)))) (sMutF appendO [] 2 (dC (.int 0))) sPass)
  (sSeq (sSetO [2] 3 (nList (dV 2)))
  (sSeq (sSetO [] 4 (nLst dNil))
  (sSeq (sFor [] (iRg rng1O (dCons (dV 1) dNil)) (.n 5) l_law_draws_1)
  (sSeq (sOwn0 List.reverse 4)
  (sRetO 4)))))))
def m_law_draws : DF := fnD 2 9 b_law_draws
def mN_law_draws : NF := fnN 2 9 b_law_draws
def b_law_take  : DS := (sSeq (sIf [] (dtE (d2 eqO (dLen (dV 0)) (dC (.int 0)))) (sRet [] (dC (.int 0))) sPass)
  (sRet [] (d2 modD (dCall intO (dCons (dPopS (dV 0)) dNil)) (dV 1))))
def m_law_take : DF := fnD 2 2 b_law_take
abbrev l_law_size_1  : DS := (sSetF [] 3 (d2 addD (d2 mulD (dV 3) (dC (.int 1000))) (dFn 2 m_law_take (dCons (dV 0) (dCons (dC (.int 1000)) dNil)))))
def b_law_size  : DS := (sSeq (sSetF [] 2 (dFn 2 m_law_take (dCons (dV 0) (dCons (dC (.int 8)) dNil))))
  (sSeq (sIf [] (dtE (d2 ltO (dV 2) (dC (.int 5)))) (sRet [] (dFn 2 m_law_take (dCons (dV 0) (dCons (dC (.int 12)) dNil)))) sPass)
  (sSeq (sIf [] (dtE (d2 eqO (dV 2) (dC (.int 5)))) (sRet [] (dFn 2 m_law_take (dCons (dV 0) (dCons (dC (.int 100)) dNil)))) sPass)
  (sSeq (sIf [] (dOr (dtE (d2 eqO (dV 2) (dC (.int 6)))) (dtE (d2 eqO (dLen (dV 1)) (dC (.int 0))))) (sSeq (sSetF [] 3 (dC (.int 0)))
  (sSeq (sFor [] (iRg rng1O (dCons (dC (.int 5)) dNil)) (.n 4) l_law_size_1)
  (sRet [] (dV 3)))) sPass)
  (sRet [] (dCall absO (dCons (dCall intO (dCons (d2 idxD (dV 1) (dFn 2 m_law_take (dCons (dV 0) (dCons (dLen (dV 1)) dNil)))) dNil)) dNil)))))))
def m_law_size : DF := fnD 2 5 b_law_size
def b_law_same (r_law_same : DF) : DS := (sSeq (sIf [] (dtE (d1 (isiD ["tuple", "list"]) (dV 1))) (sSeq (sIf [] (dOr (dtE (d2 neO (d1 (isiD ["tuple"]) (dV 0)) (d1 (isiD ["tuple"]) (dV 1)))) (dtE (d2 neO (d1 (isiD ["list"]) (dV 0)) (d1 (isiD ["list"]) (dV 1))))) (sRet [] (dC (.bl false))) sPass)
  (sSeq (sIf [] (dtE (d2 neO (dLen (dV 0)) (dLen (dV 1)))) (sRet [] (dC (.bl false))) sPass)
  (sRet [] (d2 ninO (dC (.bl false)) (dFz (nComp (iRg rng1O (dCons (dLen (dV 1)) dNil)) (.n 2) [2] dtYes (dFn 2 r_law_same (dCons (d2 idxD (dV 0) (dV 2)) (dCons (d2 idxD (dV 1) (dV 2)) dNil))))))))) sPass)
  (sSeq (sIf [] (dOr (dtE (d2 neO (d1 (isiD ["bool"]) (dV 0)) (d1 (isiD ["bool"]) (dV 1)))) (dtE (d2 neO (d1 (isiD ["int"]) (dV 0)) (d1 (isiD ["int"]) (dV 1))))) (sRet [] (dC (.bl false))) sPass)
  (sSeq (sIf [] (dOr (dtE (d2 neO (d1 (isiD ["str"]) (dV 0)) (d1 (isiD ["str"]) (dV 1)))) (dtE (d2 neO (d2 isO (dV 0) (dC .non)) (d2 isO (dV 1) (dC .non))))) (sRet [] (dC (.bl false))) sPass)
  (sRet [] (d2 eqO (dV 0) (dV 1))))))
def m_law_same : Nat → DF
  | 0 => fun _ _ => none
  | n + 1 => fnD 2 3 (b_law_same (m_law_same n))
abbrev l_law_share_1  : DS := (sSeq (sIf [] (dtE (d2 eqO (dV 3) (dC (.int 0)))) sBrk sPass)
  (sSeq (sSetF [] 5 (d2 modD (dCall intO (dCons (dV 2) dNil)) (dV 3)))
  (sSeq (sSetF [] 2 (dV 3))
  (sSetF [] 3 (dV 5)))))
def b_law_share  : DS := (sSeq (sSetF [] 2 (dV 0))
  (sSeq (sSetF [] 3 (dV 1))
  (sSeq (sFor [] (iRg rng1O (dCons (d2 addD (d2 mulD (dC (.int 2)) (d1 bitsD (dV 1))) (dC (.int 4))) dNil)) (.n 4) l_law_share_1)
  (sRet [] (dTup (dCons (d2 fdivD (dV 0) (dV 2)) (dCons (d2 fdivD (dV 1) (dV 2)) dNil)))))))
def m_law_share : DF := fnD 2 6 b_law_share
def b_law_short  : DS := (sRet [] (dFz (nComp (iSeq (dV 0)) (.n 1) [1] dtYes (d2 modD (dCall intO (dCons (dV 1) dNil)) (d2 powD (dC (.int 10)) (dC (.int 59)))))))
def m_law_short : DF := fnD 1 2 b_law_short
def b_law_any_share  : DS := (sSeq (sSetF [] 2 (dFn 1 m_law_short (dCons (dV 1) dNil)))
  (sSeq (sSetF [] 3 (dFn 2 m_law_size (dCons (dV 0) (dCons (dV 2) dNil))))
  (sSeq (sSetF [] 4 (d2 addD (dC (.int 1)) (dFn 2 m_law_size (dCons (dV 0) (dCons (dV 2) dNil)))))
  (sSeq (sSetF [] 5 (dFn 2 m_law_take (dCons (dV 0) (dCons (dC (.int 8)) dNil))))
  (sSeq (sIf [] (dtE (d2 eqO (dV 5) (dC (.int 0)))) (sRet [] (dTup (dCons (dV 3) (dCons (dC (.int 1)) dNil)))) sPass)
  (sSeq (sIf [] (dtE (d2 eqO (dV 5) (dC (.int 1)))) (sRet [] (d2 idxD (dFz (nLst (dCons (dTup (dCons (dC (.int 0)) (dCons (dC (.int 1)) dNil))) (dCons (dTup (dCons (dC (.int 1)) (dCons (dC (.int 1)) dNil))) dNil)))) (dFn 2 m_law_take (dCons (dV 0) (dCons (dC (.int 2)) dNil))))) sPass)
  (sRet [] (dFn 2 m_law_share (dCons (dV 3) (dCons (dV 4) dNil))))))))))
def m_law_any_share : DF := fnD 2 6 b_law_any_share
def b_law_any_chance  : DS := (sSeq (sSetF [] 2 (dFn 1 m_law_short (dCons (dV 1) dNil)))
  (sSeq (sSetF [] 3 (dFn 2 m_law_size (dCons (dV 0) (dCons (dV 2) dNil))))
  (sSeq (sSetF [] 4 (dFn 2 m_law_size (dCons (dV 0) (dCons (dV 2) dNil))))
  (sSeq (sSetF [] 5 (dFn 2 m_law_take (dCons (dV 0) (dCons (dC (.int 8)) dNil))))
  (sSeq (sIf [] (dtE (d2 eqO (dV 5) (dC (.int 0)))) (sRet [] (d2 idxD (dFz (nLst (dCons (dTup (dCons (dC (.int 0)) (dCons (dC (.int 1)) dNil))) (dCons (dTup (dCons (dC (.int 1)) (dCons (dC (.int 1)) dNil))) dNil)))) (dFn 2 m_law_take (dCons (dV 0) (dCons (dC (.int 2)) dNil))))) sPass)
  (sSeq (sIf [] (dtE (d2 eqO (d2 addD (dV 3) (dV 4)) (dC (.int 0)))) (sRet [] (dTup (dCons (dC (.int 0)) (dCons (dC (.int 1)) dNil)))) sPass)
  (sRet [] (dFn 2 m_law_share (dCons (dV 3) (dCons (d2 addD (dV 3) (dV 4)) dNil))))))))))
def m_law_any_chance : DF := fnD 2 6 b_law_any_chance
def b_law_kept_orders  : DS := (sSeq (sSetF [] 3 (dFn 2 m_compare_shares (dCons (dV 0) (dCons (dV 1) dNil))))
  (sSeq (sIf [] (dOr (dtE (d2 neO (dFn 2 m_compare_shares (dCons (dV 1) (dCons (dV 0) dNil))) (d2 subD (dC (.int 0)) (dV 3)))) (dtE (d2 neO (dFn 2 m_compare_shares (dCons (dFn 2 m_plus (dCons (dV 0) (dCons (dV 2) dNil))) (dCons (dFn 2 m_plus (dCons (dV 1) (dCons (dV 2) dNil))) dNil))) (dV 3)))) (sRet [] (dC (.bl false))) sPass)
  (sSeq (sIf [] (dOr (dtE (d2 ltO (dFn 2 m_compare_shares (dCons (dFn 2 m_plus (dCons (dV 0) (dCons (dV 1) dNil))) (dCons (dV 0) dNil))) (dC (.int 0)))) (dtE (d2 ltO (dFn 2 m_compare_shares (dCons (dFn 2 m_plus (dCons (dV 0) (dCons (dV 1) dNil))) (dCons (dV 1) dNil))) (dC (.int 0))))) (sRet [] (dC (.bl false))) sPass)
  (sRet [] (d2 eqO (dFn 2 m_compare_shares (dCons (dFn 2 m_times (dCons (dV 0) (dCons (dV 2) dNil))) (dCons (dFn 2 m_times (dCons (dV 1) (dCons (dV 2) dNil))) dNil))) (d2 mulD (dV 3) (dCall intO (dCons (d2 neO (dV 2) (dTup (dCons (dC (.int 0)) (dCons (dC (.int 1)) dNil)))) dNil))))))))
def m_law_kept_orders : DF := fnD 3 4 b_law_kept_orders
def b_law_misses  : DS := (sSeq (sIf [] (dNot (dtE (dFn 2 (m_law_same 12) (dCons (dFn 2 m_plus (dCons (dV 0) (dCons (dFn 1 m_rest_of (dCons (dV 0) dNil)) dNil))) (dCons (dTup (dCons (dC (.int 1)) (dCons (dC (.int 1)) dNil))) dNil))))) (sRet [] (dC (.bl false))) sPass)
  (sSeq (sSetF [] 3 (dFn 1 m_any_of (dCons (dFz (nLst (dCons (dV 0) (dCons (dV 1) dNil)))) dNil)))
  (sSeq (sIf [] (dNot (dtE (dFn 2 (m_law_same 12) (dCons (dFn 2 m_plus (dCons (dV 3) (dCons (dFn 2 m_times (dCons (dV 0) (dCons (dV 1) dNil))) dNil))) (dCons (dFn 2 m_plus (dCons (dV 0) (dCons (dV 1) dNil))) dNil))))) (sRet [] (dC (.bl false))) sPass)
  (sSeq (sIf [] (dOr (dtE (d2 ltO (dFn 2 m_compare_shares (dCons (dV 3) (dCons (dV 0) dNil))) (dC (.int 0)))) (dOr (dtE (d2 ltO (dFn 2 m_compare_shares (dCons (dV 3) (dCons (dV 1) dNil))) (dC (.int 0)))) (dtE (d2 gtO (dFn 2 m_compare_shares (dCons (dFn 2 m_times (dCons (dV 0) (dCons (dV 1) dNil))) (dCons (dV 0) dNil))) (dC (.int 0)))))) (sRet [] (dC (.bl false))) sPass)
  (sRet [] (dFn 2 (m_law_same 12) (dCons (dFn 1 m_any_of (dCons (dFz (nLst (dCons (dV 0) (dCons (dV 1) (dCons (dV 2) dNil))))) dNil)) (dCons (dFn 1 m_any_of (dCons (dFz (nLst (dCons (dV 0) (dCons (dFn 1 m_any_of (dCons (dFz (nLst (dCons (dV 1) (dCons (dV 2) dNil)))) dNil)) dNil)))) dNil)) dNil))))))))
def m_law_misses : DF := fnD 3 4 b_law_misses
abbrev l_law_1  : DS := (sSeq (sIf [] (dOr (dNot (dtE (dFn 2 (m_law_same 12) (dCons (d2 idxD (dV 6) (dC (.int 0))) (dCons (d2 idxD (dV 6) (dC (.int 1))) dNil))))) (dNot (dtE (dFn 2 (m_law_same 12) (dCons (dFn 1 m_is_share (dCons (d2 idxD (dV 6) (dC (.int 0))) dNil)) (dCons (dC (.bl true)) dNil)))))) (sRet [] (dC (.bl false))) sPass)
  (sIf [] (dOr (dtE (d2 ltO (d2 idxD (d2 idxD (dV 6) (dC (.int 0))) (dC (.int 0))) (dC (.int 0)))) (dOr (dtE (d2 ltO (d2 idxD (d2 idxD (dV 6) (dC (.int 0))) (dC (.int 1))) (dC (.int 1)))) (dtE (d2 neO (dFn 2 m_law_share (dCons (d2 idxD (d2 idxD (dV 6) (dC (.int 0))) (dC (.int 0))) (dCons (d2 idxD (d2 idxD (dV 6) (dC (.int 0))) (dC (.int 1))) dNil))) (d2 idxD (dV 6) (dC (.int 0))))))) (sRet [] (dC (.bl false))) sPass))
def b_law  : DS := (sSeq (sShare [] 1 (nFn 2 mN_law_draws (dCons (dV 0) (dCons (dC (.int 200)) dNil))))
  (sSeq (sSetF [] 2 (dFn 2 m_law_any_share (dCons (dV 1) (dCons (dV 0) dNil))))
  (sSeq (sSetF [] 3 (dFn 2 m_law_any_share (dCons (dV 1) (dCons (dV 0) dNil))))
  (sSeq (sSetF [] 4 (dFn 2 m_law_any_share (dCons (dV 1) (dCons (dV 0) dNil))))
  (sSeq (sIf [] (dtE (d2 eqO (dFn 2 m_law_take (dCons (dV 1) (dCons (dC (.int 3)) dNil))) (dC (.int 0)))) (sSetF [] 3 (dFn 2 m_law_share (dCons (d2 idxD (dV 2) (dC (.int 1))) (dCons (d2 addD (dC (.int 1)) (dFn 2 m_law_take (dCons (dV 1) (dCons (dC (.int 9)) dNil)))) dNil)))) sPass)
  (sSeq (sSetO [] 5 (nLst (dCons (dTup (dCons (dFn 2 m_plus (dCons (dV 2) (dCons (dV 3) dNil))) (dCons (dFn 2 m_plus (dCons (dV 3) (dCons (dV 2) dNil))) dNil))) (dCons (dTup (dCons (dFn 2 m_times (dCons (dV 2) (dCons (dV 3) dNil))) (dCons (dFn 2 m_times (dCons (dV 3) (dCons (dV 2) dNil))) dNil))) dNil))))
  (sSeq (sMutF appendO [] 5 (dTup (dCons (dFn 2 m_plus (dCons (dFn 2 m_plus (dCons (dV 2) (dCons (dV 3) dNil))) (dCons (dV 4) dNil))) (dCons (dFn 2 m_plus (dCons (dV 2) (dCons (dFn 2 m_plus (dCons (dV 3) (dCons (dV 4) dNil))) dNil))) dNil))))
  (sSeq (sMutF appendO [] 5 (dTup (dCons (dFn 2 m_times (dCons (dFn 2 m_times (dCons (dV 2) (dCons (dV 3) dNil))) (dCons (dV 4) dNil))) (dCons (dFn 2 m_times (dCons (dV 2) (dCons (dFn 2 m_times (dCons (dV 3) (dCons (dV 4) dNil))) dNil))) dNil))))
  (sSeq (sMutF appendO [] 5 (dTup (dCons (dFn 2 m_times (dCons (dV 2) (dCons (dFn 2 m_plus (dCons (dV 3) (dCons (dV 4) dNil))) dNil))) (dCons (dFn 2 m_plus (dCons (dFn 2 m_times (dCons (dV 2) (dCons (dV 3) dNil))) (dCons (dFn 2 m_times (dCons (dV 2) (dCons (dV 4) dNil))) dNil))) dNil))))
  (sSeq (sMutF appendO [] 5 (dTup (dCons (dFn 2 m_plus (dCons (dV 2) (dCons (dTup (dCons (dC (.int 0)) (dCons (dC (.int 1)) dNil))) dNil))) (dCons (dFn 2 m_times (dCons (dV 2) (dCons (dTup (dCons (dC (.int 1)) (dCons (dC (.int 1)) dNil))) dNil))) dNil))))
  (sSeq (sFor [5] (iSeq (dV 5)) (.n 6) l_law_1)
  (sSeq (sIf [] (dNot (dtE (dFn 3 m_law_kept_orders (dCons (dV 2) (dCons (dV 3) (dCons (dV 4) dNil)))))) (sRet [] (dC (.bl false))) sPass)
  (sRet [] (dFn 3 m_law_misses (dCons (dFn 2 m_law_any_chance (dCons (dV 1) (dCons (dV 0) dNil))) (dCons (dFn 2 m_law_any_chance (dCons (dV 1) (dCons (dV 0) dNil))) (dCons (dFn 2 m_law_any_chance (dCons (dV 1) (dCons (dV 0) dNil))) dNil)))))))))))))))))
def m_law : DF := fnD 1 7 b_law
structure Txt (K : PySem.W.Frag) (mg : Str → Option Value) : Prop where
  f_abs : mg "abs" = none
  f_bool : mg "bool" = none
  f_int : mg "int" = none
  f_isinstance : mg "isinstance" = none
  f_len : mg "len" = none
  f_list : mg "list" = none
  f_range : mg "range" = none
  f_str : mg "str" = none
  f_tuple : mg "tuple" = none
  x_gcd : mg "gcd" = some (.builtin "math.gcd")
  d_make_share : Stand K mg "make_share" s_make_share ["n", "d"]
  d_is_share : Stand K mg "is_share" s_is_share ["pair"]
  d_plus : Stand K mg "plus" s_plus ["share", "other"]
  d_times : Stand K mg "times" s_times ["share", "other"]
  d_compare_shares : Stand K mg "compare_shares" s_compare_shares ["share", "other"]
  d_rest_of : Stand K mg "rest_of" s_rest_of ["chance"]
  d_product_of : Stand K mg "product_of" s_product_of ["shares"]
  d_any_of : Stand K mg "any_of" s_any_of ["chances"]
  d_law_draws : Stand K mg "_law_draws" s_law_draws ["_law_script", "_law_many"]
  d_law_take : Stand K mg "_law_take" s_law_take ["_law_draws_here", "_law_many"]
  d_law_size : Stand K mg "_law_size" s_law_size ["_law_draws_here", "_law_script"]
  d_law_same : Stand K mg "_law_same" s_law_same ["_law_actual", "_law_due"]
  d_law_share : Stand K mg "_law_share" s_law_share ["_law_n", "_law_d"]
  d_law_short : Stand K mg "_law_short" s_law_short ["_law_script"]
  d_law_any_share : Stand K mg "_law_any_share" s_law_any_share ["_law_draws_here", "_law_script"]
  d_law_any_chance : Stand K mg "_law_any_chance" s_law_any_chance ["_law_draws_here", "_law_script"]
  d_law_kept_orders : Stand K mg "_law_kept_orders" s_law_kept_orders ["_law_a", "_law_b", "_law_c"]
  d_law_misses : Stand K mg "_law_misses" s_law_misses ["_law_p", "_law_q", "_law_r"]
  d_law : Stand K mg "law" s_law ["_law_script"]
section
variable {P : Program} {w : World} {K : PySem.W.Frag} {mg : Str → Option Value} {base : Heap}
theorem ok_make_share (T : Txt K mg) : Callee P w K mg base "make_share" 1 ["n", "d"] (spD K 2 m_make_share) := T.d_make_share.okD (k := 0) sc_make_share fun f cdv A outer s H E hr => by
  unfold b_make_share
  exact (dpss_cons (dps_if [] (dpt_w (dpw_or (dpt_cmp (od_eq hr.units) (dpv 1) dpe_int (nomark _)) (dpw_or1 (dpt_cmp od_lt (dpe_mul (dpv 0) (dpv 1)) dpe_int (nomark _))))) (dpss_one dps_never) dpss_nil) (dpss_cons (dps_setF [] (i := 2) sc_make_share.nd rfl (by first | exact Or.inl rfl | exact Or.inr rfl) (dpe_gcd T.x_gcd (dpa_cons (dpv 0) (dpa_cons (dpv 1) dpa_nil)))) (dpss_one (dps_ret [] (dpe_tup (dpa_cons (dpe_fdiv (dpe_cb cd_abs T.f_abs bt_abs (dpa_cons (dpv 0) dpa_nil)) (dpv 2)) (dpa_cons (dpe_fdiv (dpe_cb cd_abs T.f_abs bt_abs (dpa_cons (dpv 1) dpa_nil)) (dpv 2)) dpa_nil)))))))
theorem ok_is_share (T : Txt K mg) : Callee P w K mg base "is_share" 1 ["pair"] (spD K 1 m_is_share) := T.d_is_share.okD (k := 0) sc_is_share fun f cdv A outer s H E hr => by
  unfold b_is_share
  exact (dpss_cons (dps_setT [] (dpv 0) (pg_tup rfl (pgs_cons (pg_name (i := 1) sc_is_share.nd rfl (by first | exact Or.inl rfl | exact Or.inr rfl)) (pgs_cons (pg_name (i := 2) sc_is_share.nd rfl (by first | exact Or.inl rfl | exact Or.inr rfl)) pgs_nil)))) (dpss_one (dps_ret [] (dpe_and (dpe_cmp od_ge (dpv 1) dpe_int (nomark _)) (dpe_and (dpe_cmp od_ge (dpv 2) dpe_int (nomark _)) (dpe_one (dpe_cmp (od_eq hr.units) (dpe_gcd T.x_gcd (dpa_cons (dpv 1) (dpa_cons (dpv 2) dpa_nil))) dpe_int (nomark _))))))))
theorem ok_plus (T : Txt K mg) : Callee P w K mg base "plus" 2 ["share", "other"] (spD K 2 m_plus) := T.d_plus.okD (k := 1) sc_plus fun f cdv A outer s H E hr => by
  unfold b_plus
  exact (dpss_one (dps_ret [] (dpe_cl (ok_make_share T) hr (dpa_cons (dpe_add (dpe_mul (dpe_ix (dpv 0) dpe_int (fun _ _ => rfl)) (dpe_ix (dpv 1) dpe_int (fun _ _ => rfl))) (dpe_mul (dpe_ix (dpv 1) dpe_int (fun _ _ => rfl)) (dpe_ix (dpv 0) dpe_int (fun _ _ => rfl)))) (dpa_cons (dpe_mul (dpe_ix (dpv 0) dpe_int (fun _ _ => rfl)) (dpe_ix (dpv 1) dpe_int (fun _ _ => rfl))) dpa_nil)))))
theorem ok_times (T : Txt K mg) : Callee P w K mg base "times" 2 ["share", "other"] (spD K 2 m_times) := T.d_times.okD (k := 1) sc_times fun f cdv A outer s H E hr => by
  unfold b_times
  exact (dpss_one (dps_ret [] (dpe_cl (ok_make_share T) hr (dpa_cons (dpe_mul (dpe_ix (dpv 0) dpe_int (fun _ _ => rfl)) (dpe_ix (dpv 1) dpe_int (fun _ _ => rfl))) (dpa_cons (dpe_mul (dpe_ix (dpv 0) dpe_int (fun _ _ => rfl)) (dpe_ix (dpv 1) dpe_int (fun _ _ => rfl))) dpa_nil)))))
theorem ok_compare_shares (T : Txt K mg) : Callee P w K mg base "compare_shares" 1 ["share", "other"] (spD K 2 m_compare_shares) := T.d_compare_shares.okD (k := 0) sc_compare_shares fun f cdv A outer s H E hr => by
  unfold b_compare_shares
  exact (dpss_cons (dps_setF [] (i := 2) sc_compare_shares.nd rfl (by first | exact Or.inl rfl | exact Or.inr rfl) (dpe_mul (dpe_ix (dpv 0) dpe_int (fun _ _ => rfl)) (dpe_ix (dpv 1) dpe_int (fun _ _ => rfl)))) (dpss_cons (dps_setF [] (i := 3) sc_compare_shares.nd rfl (by first | exact Or.inl rfl | exact Or.inr rfl) (dpe_mul (dpe_ix (dpv 1) dpe_int (fun _ _ => rfl)) (dpe_ix (dpv 0) dpe_int (fun _ _ => rfl)))) (dpss_cons (dps_if [] (dpt_cmp (od_eq hr.units) (dpv 2) (dpv 3) (nomark _)) (dpss_one (dps_ret [] dpe_int)) dpss_nil) (dpss_one (dps_ret [] (dpe_if (dpt_cmp od_lt (dpv 2) (dpv 3) (nomark _)) (dpe_neg dpe_int) dpe_int))))))
theorem ok_rest_of (T : Txt K mg) : Callee P w K mg base "rest_of" 1 ["chance"] (spD K 1 m_rest_of) := T.d_rest_of.okD (k := 0) sc_rest_of fun f cdv A outer s H E hr => by
  unfold b_rest_of
  exact (dpss_one (dps_ret [] (dpe_tup (dpa_cons (dpe_sub (dpe_ix (dpv 0) dpe_int (fun _ _ => rfl)) (dpe_ix (dpv 0) dpe_int (fun _ _ => rfl))) (dpa_cons (dpe_ix (dpv 0) dpe_int (fun _ _ => rfl)) dpa_nil)))))
theorem ok_product_of (T : Txt K mg) : Callee P w K mg base "product_of" 3 ["shares"] (spD K 1 m_product_of) := T.d_product_of.okD (k := 2) sc_product_of fun f cdv A outer s H E hr => by
  unfold b_product_of
  exact (dpss_cons (dps_setF [] (i := 1) sc_product_of.nd rfl (by first | exact Or.inl rfl | exact Or.inr rfl) (dpe_tup (dpa_cons dpe_int (dpa_cons dpe_int dpa_nil)))) (dpss_cons (dps_for [] pass_never rfl (dpi_seq (dpv 0)) (pg_name (i := 2) sc_product_of.nd rfl (by first | exact Or.inl rfl | exact Or.inr rfl)) (dpss_one (dps_setF [] (i := 1) sc_product_of.nd rfl (by first | exact Or.inl rfl | exact Or.inr rfl) (dpe_cl (ok_times T) hr (dpa_cons (dpv 1) (dpa_cons (dpv 2) dpa_nil)))))) (dpss_one (dps_ret [] (dpv 1)))))
theorem ok_any_of (T : Txt K mg) : Callee P w K mg base "any_of" 4 ["chances"] (spD K 1 m_any_of) := T.d_any_of.okD (k := 3) sc_any_of fun f cdv A outer s H E hr => by
  unfold b_any_of
  exact (dpss_one (dps_ret [] (dpe_cl (ok_rest_of T) hr (dpa_cons (dpe_cl (ok_product_of T) hr (dpa_cons (PN.fz (dn_comp (own := [("chance", 1)]) rfl sc_any_of.nd (dpi_seq (dpv 0)) (blkOk_by (N := N_any_of) (sc := defScope s_any_of) (by decide +kernel)) (fun _ _ _ _ _ => (pg_name (i := 1) sc_any_of.nd rfl (by first | exact Or.inl rfl | exact Or.inr rfl))) (fun _ _ _ _ _ => dpts_nil) (fun _ _ _ _ _ => (dpe_cl (ok_rest_of T) hr (dpa_cons (dpv 1) dpa_nil))))) dpa_nil)) dpa_nil))))
theorem ok_law_draws (T : Txt K mg) : Callee P w K mg base "_law_draws" 1 ["_law_script", "_law_many"] (spD K 2 m_law_draws) := T.d_law_draws.okD (k := 0) sc_law_draws fun f cdv A outer s H E hr => by
  unfold b_law_draws
  exact (dpss_cons (by first | exact (setO_of [] (asg_comp (own := [("_law_cell", 7)]) rfl sc_law_draws.nd rfl rfl (sw_true rfl rfl rfl (by decide +kernel)) (dpi_seq (dpv 0)) (blkOk_by (N := N_law_draws) (sc := defScope s_law_draws) (by decide +kernel)) (fun _ _ _ _ _ => (pg_name (i := 7) sc_law_draws.nd rfl (by first | exact Or.inl rfl | exact Or.inr rfl))) (fun _ _ _ _ _ => dpts_nil) (fun _ _ _ _ _ => (dpe_ct cd_int T.f_int bt_int (dpa_cons (dpv 7) dpa_nil))))) | exact (dps_setO [] (i := 2) sc_law_draws.nd rfl (by first | exact Or.inl rfl | exact Or.inr rfl) (dn_comp (own := [("_law_cell", 7)]) rfl sc_law_draws.nd (dpi_seq (dpv 0)) (blkOk_by (N := N_law_draws) (sc := defScope s_law_draws) (by decide +kernel)) (fun _ _ _ _ _ => (pg_name (i := 7) sc_law_draws.nd rfl (by first | exact Or.inl rfl | exact Or.inr rfl))) (fun _ _ _ _ _ => dpts_nil) (fun _ _ _ _ _ => (dpe_ct cd_int T.f_int bt_int (dpa_cons (dpv 7) dpa_nil)))))) (dpss_cons (dps_if [2] (dpt_cmp (od_eq hr.units) (dpe_len T.f_len (dpv 2)) dpe_int (nomark _)) (dpss_one (dps_appF [] (app_rule [] (pv 2) dpe_int))) dpss_nil) (dpss_cons (dps_setO [2] (i := 3) sc_law_draws.nd rfl (by first | exact Or.inl rfl | exact Or.inr rfl) (dn_list T.f_list (dpv 2))) (dpss_cons (dps_setO [] (i := 4) sc_law_draws.nd rfl (by first | exact Or.inl rfl | exact Or.inr rfl) (dn_lst dpa_nil)) (dpss_cons (dps_for [] pass_never rfl (dpi_range1 (by rfl) T.f_range (dpa_cons (dpv 1) dpa_nil)) (pg_name (i := 5) sc_law_draws.nd rfl (by first | exact Or.inl rfl | exact Or.inr rfl)) (dpss_cons (dps_setF [2] (i := 6) sc_law_draws.nd rfl (by first | exact Or.inl rfl | exact Or.inr rfl) (dpe_mod (dpv 5) (dpe_len T.f_len (dpv 2)))) (dpss_one (dps_if [2] (dpt_cmp od_ge (dpe_ix (dpv 2) (dpv 6) (fun _ _ => rfl)) (dpe_pow dpe_int dpe_int) (nomark _)) (dpss_cons (dps_appP [3] (app_rule [3] (pv 4) (dpe_mod (dpe_ct cd_int T.f_int bt_int (dpa_cons (dpe_ix (dpv 3) (dpv 6) (fun _ _ => rfl)) dpa_nil)) dpe_int))) (dpss_one (dps_setIP [3] [] (dpe_fdiv (dpe_ix (dpv 3) (dpv 6) (fun _ _ => rfl)) dpe_int) (pv 3) (dpv 6) (fun ho hi => pg_sub ho hi set_list)))) (dpss_cons (dps_setF [2] (i := 8) sc_law_draws.nd rfl (by first | exact Or.inl rfl | exact Or.inr rfl) (dpe_mod (dpe_ct cd_int T.f_int bt_int (dpa_cons (dpe_add (dpe_add (dpe_mul (dpe_ix (dpv 2) (dpv 6) (fun _ _ => rfl)) dpe_int) (dpe_mul (dpv 5) dpe_int)) dpe_int) dpa_nil)) dpe_int)) (dpss_one (dps_appF [] (app_rule [] (pv 4) (dpe_mod (dpe_ct cd_int T.f_int bt_int (dpa_cons (dpe_add (dpe_add (dpe_mul (dpv 8) (dpv 8)) (dpe_mul dpe_int (dpv 8))) (dpv 5)) dpa_nil)) dpe_int))))))))) (dpss_cons (dps_reverse (pv 4)) (dpss_one (dps_retO 4 (pv 4)))))))))
theorem okN_law_draws (T : Txt K mg) : Callee P w K mg base "_law_draws" 1 ["_law_script", "_law_many"] (spN K 2 mN_law_draws) := T.d_law_draws.okN (k := 0) sc_law_draws fun f cdv A outer s H E hr => by
  unfold b_law_draws
  exact (dpss_cons (by first | exact (setO_of [] (asg_comp (own := [("_law_cell", 7)]) rfl sc_law_draws.nd rfl rfl (sw_true rfl rfl rfl (by decide +kernel)) (dpi_seq (dpv 0)) (blkOk_by (N := N_law_draws) (sc := defScope s_law_draws) (by decide +kernel)) (fun _ _ _ _ _ => (pg_name (i := 7) sc_law_draws.nd rfl (by first | exact Or.inl rfl | exact Or.inr rfl))) (fun _ _ _ _ _ => dpts_nil) (fun _ _ _ _ _ => (dpe_ct cd_int T.f_int bt_int (dpa_cons (dpv 7) dpa_nil))))) | exact (dps_setO [] (i := 2) sc_law_draws.nd rfl (by first | exact Or.inl rfl | exact Or.inr rfl) (dn_comp (own := [("_law_cell", 7)]) rfl sc_law_draws.nd (dpi_seq (dpv 0)) (blkOk_by (N := N_law_draws) (sc := defScope s_law_draws) (by decide +kernel)) (fun _ _ _ _ _ => (pg_name (i := 7) sc_law_draws.nd rfl (by first | exact Or.inl rfl | exact Or.inr rfl))) (fun _ _ _ _ _ => dpts_nil) (fun _ _ _ _ _ => (dpe_ct cd_int T.f_int bt_int (dpa_cons (dpv 7) dpa_nil)))))) (dpss_cons (dps_if [2] (dpt_cmp (od_eq hr.units) (dpe_len T.f_len (dpv 2)) dpe_int (nomark _)) (dpss_one (dps_appF [] (app_rule [] (pv 2) dpe_int))) dpss_nil) (dpss_cons (dps_setO [2] (i := 3) sc_law_draws.nd rfl (by first | exact Or.inl rfl | exact Or.inr rfl) (dn_list T.f_list (dpv 2))) (dpss_cons (dps_setO [] (i := 4) sc_law_draws.nd rfl (by first | exact Or.inl rfl | exact Or.inr rfl) (dn_lst dpa_nil)) (dpss_cons (dps_for [] pass_never rfl (dpi_range1 (by rfl) T.f_range (dpa_cons (dpv 1) dpa_nil)) (pg_name (i := 5) sc_law_draws.nd rfl (by first | exact Or.inl rfl | exact Or.inr rfl)) (dpss_cons (dps_setF [2] (i := 6) sc_law_draws.nd rfl (by first | exact Or.inl rfl | exact Or.inr rfl) (dpe_mod (dpv 5) (dpe_len T.f_len (dpv 2)))) (dpss_one (dps_if [2] (dpt_cmp od_ge (dpe_ix (dpv 2) (dpv 6) (fun _ _ => rfl)) (dpe_pow dpe_int dpe_int) (nomark _)) (dpss_cons (dps_appP [3] (app_rule [3] (pv 4) (dpe_mod (dpe_ct cd_int T.f_int bt_int (dpa_cons (dpe_ix (dpv 3) (dpv 6) (fun _ _ => rfl)) dpa_nil)) dpe_int))) (dpss_one (dps_setIP [3] [] (dpe_fdiv (dpe_ix (dpv 3) (dpv 6) (fun _ _ => rfl)) dpe_int) (pv 3) (dpv 6) (fun ho hi => pg_sub ho hi set_list)))) (dpss_cons (dps_setF [2] (i := 8) sc_law_draws.nd rfl (by first | exact Or.inl rfl | exact Or.inr rfl) (dpe_mod (dpe_ct cd_int T.f_int bt_int (dpa_cons (dpe_add (dpe_add (dpe_mul (dpe_ix (dpv 2) (dpv 6) (fun _ _ => rfl)) dpe_int) (dpe_mul (dpv 5) dpe_int)) dpe_int) dpa_nil)) dpe_int)) (dpss_one (dps_appF [] (app_rule [] (pv 4) (dpe_mod (dpe_ct cd_int T.f_int bt_int (dpa_cons (dpe_add (dpe_add (dpe_mul (dpv 8) (dpv 8)) (dpe_mul dpe_int (dpv 8))) (dpv 5)) dpa_nil)) dpe_int))))))))) (dpss_cons (dps_reverse (pv 4)) (dpss_one (dps_retO 4 (pv 4)))))))))
theorem ok_law_take (T : Txt K mg) : Callee P w K mg base "_law_take" 1 ["_law_draws_here", "_law_many"] (spD K 2 m_law_take) := T.d_law_take.okD (k := 0) sc_law_take fun f cdv A outer s H E hr => by
  unfold b_law_take
  exact (dpss_cons (dps_if [] (dpt_cmp (od_eq hr.units) (dpe_len T.f_len (dpv 0)) dpe_int (nomark _)) (dpss_one (dps_ret [] dpe_int)) dpss_nil) (dpss_one (dps_ret [] (dpe_mod (dpe_ct cd_int T.f_int bt_int (dpa_cons (pop_rule (dpv 0)) dpa_nil)) (dpv 1)))))
theorem ok_law_size (T : Txt K mg) : Callee P w K mg base "_law_size" 2 ["_law_draws_here", "_law_script"] (spD K 2 m_law_size) := T.d_law_size.okD (k := 1) sc_law_size fun f cdv A outer s H E hr => by
  unfold b_law_size
  exact (dpss_cons (dps_setF [] (i := 2) sc_law_size.nd rfl (by first | exact Or.inl rfl | exact Or.inr rfl) (dpe_cl (ok_law_take T) hr (dpa_cons (dpv 0) (dpa_cons dpe_int dpa_nil)))) (dpss_cons (dps_if [] (dpt_cmp od_lt (dpv 2) dpe_int (nomark _)) (dpss_one (dps_ret [] (dpe_cl (ok_law_take T) hr (dpa_cons (dpv 0) (dpa_cons dpe_int dpa_nil))))) dpss_nil) (dpss_cons (dps_if [] (dpt_cmp (od_eq hr.units) (dpv 2) dpe_int (nomark _)) (dpss_one (dps_ret [] (dpe_cl (ok_law_take T) hr (dpa_cons (dpv 0) (dpa_cons dpe_int dpa_nil))))) dpss_nil) (dpss_cons (dps_if [] (dpt_w (dpw_or (dpt_cmp (od_eq hr.units) (dpv 2) dpe_int (nomark _)) (dpw_or1 (dpt_cmp (od_eq hr.units) (dpe_len T.f_len (dpv 1)) dpe_int (nomark _))))) (dpss_cons (dps_setF [] (i := 3) sc_law_size.nd rfl (by first | exact Or.inl rfl | exact Or.inr rfl) dpe_int) (dpss_cons (dps_for [] pass_never rfl (dpi_range1 (by rfl) T.f_range (dpa_cons dpe_int dpa_nil)) (pg_name (i := 4) sc_law_size.nd rfl (by first | exact Or.inl rfl | exact Or.inr rfl)) (dpss_one (dps_setF [] (i := 3) sc_law_size.nd rfl (by first | exact Or.inl rfl | exact Or.inr rfl) (dpe_add (dpe_mul (dpv 3) dpe_int) (dpe_cl (ok_law_take T) hr (dpa_cons (dpv 0) (dpa_cons dpe_int dpa_nil))))))) (dpss_one (dps_ret [] (dpv 3))))) dpss_nil) (dpss_one (dps_ret [] (dpe_cb cd_abs T.f_abs bt_abs (dpa_cons (dpe_ct cd_int T.f_int bt_int (dpa_cons (dpe_ix (dpv 1) (dpe_cl (ok_law_take T) hr (dpa_cons (dpv 0) (dpa_cons (dpe_len T.f_len (dpv 1)) dpa_nil))) (fun _ _ => rfl)) dpa_nil)) dpa_nil))))))))
theorem ok_law_same (T : Txt K mg) : ∀ n : Nat, Callee P w K mg base "_law_same" (1 + n) ["_law_actual", "_law_due"] (spD K 2 (m_law_same n))
  | 0 => (T.d_law_same.ok0 sc_law_same).mono (by decide)
  | n + 1 => T.d_law_same.okD (k := 1 + n) sc_law_same fun f cdv A outer s H E hr => by
    have ih_law_same := ok_law_same T n
    unfold b_law_same
    exact (dpss_cons (dps_if [] (dpt_val (dpe_isiT (ns := ["tuple", "list"]) T.f_isinstance (dpv 1) (pe_tys (ns := ["tuple", "list"]) (pa_cons (pe_ty T.f_tuple bt_tuple) (pa_cons (pe_ty T.f_list bt_list) pa_nil)) (fun _ _ _ h => h) (by decide)) (by decide +kernel))) (dpss_cons (dps_if [] (dpt_w (dpw_or (dpt_cmp (od_ne hr.units) (dpe_isi T.f_isinstance (dpv 0) (pe_ty T.f_tuple bt_tuple) (by decide +kernel)) (dpe_isi T.f_isinstance (dpv 1) (pe_ty T.f_tuple bt_tuple) (by decide +kernel)) (nomark _)) (dpw_or1 (dpt_cmp (od_ne hr.units) (dpe_isi T.f_isinstance (dpv 0) (pe_ty T.f_list bt_list) (by decide +kernel)) (dpe_isi T.f_isinstance (dpv 1) (pe_ty T.f_list bt_list) (by decide +kernel)) (nomark _))))) (dpss_one (dps_ret [] dpe_bl)) dpss_nil) (dpss_cons (dps_if [] (dpt_cmp (od_ne hr.units) (dpe_len T.f_len (dpv 0)) (dpe_len T.f_len (dpv 1)) (nomark _)) (dpss_one (dps_ret [] dpe_bl)) dpss_nil) (dpss_one (dps_ret [] (dpe_cmp (od_nin hr.units) dpe_bl (PN.fz (dn_comp (own := [("_law_k", 2)]) rfl sc_law_same.nd (dpi_range1 (by rfl) T.f_range (dpa_cons (dpe_len T.f_len (dpv 1)) dpa_nil)) (blkOk_by (N := N_law_same) (sc := defScope s_law_same) (by decide +kernel)) (fun _ _ _ _ _ => (pg_name (i := 2) sc_law_same.nd rfl (by first | exact Or.inl rfl | exact Or.inr rfl))) (fun _ _ _ _ _ => dpts_nil) (fun _ _ _ _ _ => (dpe_cl ih_law_same hr (dpa_cons (dpe_ix (dpv 0) (dpv 2) (fun _ _ => rfl)) (dpa_cons (dpe_ix (dpv 1) (dpv 2) (fun _ _ => rfl)) dpa_nil)) (Nat.le_refl _))))) (by rfl)))))) dpss_nil) (dpss_cons (dps_if [] (dpt_w (dpw_or (dpt_cmp (od_ne hr.units) (dpe_isi T.f_isinstance (dpv 0) (pe_ty T.f_bool bt_bool) (by decide +kernel)) (dpe_isi T.f_isinstance (dpv 1) (pe_ty T.f_bool bt_bool) (by decide +kernel)) (nomark _)) (dpw_or1 (dpt_cmp (od_ne hr.units) (dpe_isi T.f_isinstance (dpv 0) (pe_ty T.f_int bt_int) (by decide +kernel)) (dpe_isi T.f_isinstance (dpv 1) (pe_ty T.f_int bt_int) (by decide +kernel)) (nomark _))))) (dpss_one (dps_ret [] dpe_bl)) dpss_nil) (dpss_cons (dps_if [] (dpt_w (dpw_or (dpt_cmp (od_ne hr.units) (dpe_isi T.f_isinstance (dpv 0) (pe_ty T.f_str bt_str) (by decide +kernel)) (dpe_isi T.f_isinstance (dpv 1) (pe_ty T.f_str bt_str) (by decide +kernel)) (nomark _)) (dpw_or1 (dpt_cmp (od_ne hr.units) (dpe_cmp od_is (dpv 0) dpe_non (nomark _)) (dpe_cmp od_is (dpv 1) dpe_non (nomark _)) (nomark _))))) (dpss_one (dps_ret [] dpe_bl)) dpss_nil) (dpss_one (dps_ret [] (dpe_cmp (od_eq hr.units) (dpv 0) (dpv 1) (nomark _)))))))
theorem ok_law_share (T : Txt K mg) : Callee P w K mg base "_law_share" 1 ["_law_n", "_law_d"] (spD K 2 m_law_share) := T.d_law_share.okD (k := 0) sc_law_share fun f cdv A outer s H E hr => by
  unfold b_law_share
  exact (dpss_cons (dps_setF [] (i := 2) sc_law_share.nd rfl (by first | exact Or.inl rfl | exact Or.inr rfl) (dpv 0)) (dpss_cons (dps_setF [] (i := 3) sc_law_share.nd rfl (by first | exact Or.inl rfl | exact Or.inr rfl) (dpv 1)) (dpss_cons (dps_for [] pass_never rfl (dpi_range1 (by rfl) T.f_range (dpa_cons (dpe_add (dpe_mul dpe_int (dpe_bits (dpv 1))) dpe_int) dpa_nil)) (pg_name (i := 4) sc_law_share.nd rfl (by first | exact Or.inl rfl | exact Or.inr rfl)) (dpss_cons (dps_if [] (dpt_cmp (od_eq hr.units) (dpv 3) dpe_int (nomark _)) (dpss_one dps_break) dpss_nil) (dpss_cons (dps_setF [] (i := 5) sc_law_share.nd rfl (by first | exact Or.inl rfl | exact Or.inr rfl) (dpe_mod (dpe_ct cd_int T.f_int bt_int (dpa_cons (dpv 2) dpa_nil)) (dpv 3))) (dpss_cons (dps_setF [] (i := 2) sc_law_share.nd rfl (by first | exact Or.inl rfl | exact Or.inr rfl) (dpv 3)) (dpss_one (dps_setF [] (i := 3) sc_law_share.nd rfl (by first | exact Or.inl rfl | exact Or.inr rfl) (dpv 5))))))) (dpss_one (dps_ret [] (dpe_tup (dpa_cons (dpe_fdiv (dpv 0) (dpv 2)) (dpa_cons (dpe_fdiv (dpv 1) (dpv 2)) dpa_nil))))))))
theorem ok_law_short (T : Txt K mg) : Callee P w K mg base "_law_short" 1 ["_law_script"] (spD K 1 m_law_short) := T.d_law_short.okD (k := 0) sc_law_short fun f cdv A outer s H E hr => by
  unfold b_law_short
  exact (dpss_one (dps_ret [] (PN.fz (dn_comp (own := [("_law_cell", 1)]) rfl sc_law_short.nd (dpi_seq (dpv 0)) (blkOk_by (N := N_law_short) (sc := defScope s_law_short) (by decide +kernel)) (fun _ _ _ _ _ => (pg_name (i := 1) sc_law_short.nd rfl (by first | exact Or.inl rfl | exact Or.inr rfl))) (fun _ _ _ _ _ => dpts_nil) (fun _ _ _ _ _ => (dpe_mod (dpe_ct cd_int T.f_int bt_int (dpa_cons (dpv 1) dpa_nil)) (dpe_pow dpe_int dpe_int)))))))
theorem ok_law_any_share (T : Txt K mg) : Callee P w K mg base "_law_any_share" 3 ["_law_draws_here", "_law_script"] (spD K 2 m_law_any_share) := T.d_law_any_share.okD (k := 2) sc_law_any_share fun f cdv A outer s H E hr => by
  unfold b_law_any_share
  exact (dpss_cons (dps_setF [] (i := 2) sc_law_any_share.nd rfl (by first | exact Or.inl rfl | exact Or.inr rfl) (dpe_cl (ok_law_short T) hr (dpa_cons (dpv 1) dpa_nil))) (dpss_cons (dps_setF [] (i := 3) sc_law_any_share.nd rfl (by first | exact Or.inl rfl | exact Or.inr rfl) (dpe_cl (ok_law_size T) hr (dpa_cons (dpv 0) (dpa_cons (dpv 2) dpa_nil)))) (dpss_cons (dps_setF [] (i := 4) sc_law_any_share.nd rfl (by first | exact Or.inl rfl | exact Or.inr rfl) (dpe_add dpe_int (dpe_cl (ok_law_size T) hr (dpa_cons (dpv 0) (dpa_cons (dpv 2) dpa_nil))))) (dpss_cons (dps_setF [] (i := 5) sc_law_any_share.nd rfl (by first | exact Or.inl rfl | exact Or.inr rfl) (dpe_cl (ok_law_take T) hr (dpa_cons (dpv 0) (dpa_cons dpe_int dpa_nil)))) (dpss_cons (dps_if [] (dpt_cmp (od_eq hr.units) (dpv 5) dpe_int (nomark _)) (dpss_one (dps_ret [] (dpe_tup (dpa_cons (dpv 3) (dpa_cons dpe_int dpa_nil))))) dpss_nil) (dpss_cons (dps_if [] (dpt_cmp (od_eq hr.units) (dpv 5) dpe_int (nomark _)) (dpss_one (dps_ret [] (dpe_ix (PN.fz (dn_lst (dpa_cons (dpe_tup (dpa_cons dpe_int (dpa_cons dpe_int dpa_nil))) (dpa_cons (dpe_tup (dpa_cons dpe_int (dpa_cons dpe_int dpa_nil))) dpa_nil)))) (dpe_cl (ok_law_take T) hr (dpa_cons (dpv 0) (dpa_cons dpe_int dpa_nil))) (fun _ _ => rfl)))) dpss_nil) (dpss_one (dps_ret [] (dpe_cl (ok_law_share T) hr (dpa_cons (dpv 3) (dpa_cons (dpv 4) dpa_nil)))))))))))
theorem ok_law_any_chance (T : Txt K mg) : Callee P w K mg base "_law_any_chance" 3 ["_law_draws_here", "_law_script"] (spD K 2 m_law_any_chance) := T.d_law_any_chance.okD (k := 2) sc_law_any_chance fun f cdv A outer s H E hr => by
  unfold b_law_any_chance
  exact (dpss_cons (dps_setF [] (i := 2) sc_law_any_chance.nd rfl (by first | exact Or.inl rfl | exact Or.inr rfl) (dpe_cl (ok_law_short T) hr (dpa_cons (dpv 1) dpa_nil))) (dpss_cons (dps_setF [] (i := 3) sc_law_any_chance.nd rfl (by first | exact Or.inl rfl | exact Or.inr rfl) (dpe_cl (ok_law_size T) hr (dpa_cons (dpv 0) (dpa_cons (dpv 2) dpa_nil)))) (dpss_cons (dps_setF [] (i := 4) sc_law_any_chance.nd rfl (by first | exact Or.inl rfl | exact Or.inr rfl) (dpe_cl (ok_law_size T) hr (dpa_cons (dpv 0) (dpa_cons (dpv 2) dpa_nil)))) (dpss_cons (dps_setF [] (i := 5) sc_law_any_chance.nd rfl (by first | exact Or.inl rfl | exact Or.inr rfl) (dpe_cl (ok_law_take T) hr (dpa_cons (dpv 0) (dpa_cons dpe_int dpa_nil)))) (dpss_cons (dps_if [] (dpt_cmp (od_eq hr.units) (dpv 5) dpe_int (nomark _)) (dpss_one (dps_ret [] (dpe_ix (PN.fz (dn_lst (dpa_cons (dpe_tup (dpa_cons dpe_int (dpa_cons dpe_int dpa_nil))) (dpa_cons (dpe_tup (dpa_cons dpe_int (dpa_cons dpe_int dpa_nil))) dpa_nil)))) (dpe_cl (ok_law_take T) hr (dpa_cons (dpv 0) (dpa_cons dpe_int dpa_nil))) (fun _ _ => rfl)))) dpss_nil) (dpss_cons (dps_if [] (dpt_cmp (od_eq hr.units) (dpe_add (dpv 3) (dpv 4)) dpe_int (nomark _)) (dpss_one (dps_ret [] (dpe_tup (dpa_cons dpe_int (dpa_cons dpe_int dpa_nil))))) dpss_nil) (dpss_one (dps_ret [] (dpe_cl (ok_law_share T) hr (dpa_cons (dpv 3) (dpa_cons (dpe_add (dpv 3) (dpv 4)) dpa_nil)))))))))))
theorem ok_law_kept_orders (T : Txt K mg) : Callee P w K mg base "_law_kept_orders" 3 ["_law_a", "_law_b", "_law_c"] (spD K 3 m_law_kept_orders) := T.d_law_kept_orders.okD (k := 2) sc_law_kept_orders fun f cdv A outer s H E hr => by
  unfold b_law_kept_orders
  exact (dpss_cons (dps_setF [] (i := 3) sc_law_kept_orders.nd rfl (by first | exact Or.inl rfl | exact Or.inr rfl) (dpe_cl (ok_compare_shares T) hr (dpa_cons (dpv 0) (dpa_cons (dpv 1) dpa_nil)))) (dpss_cons (dps_if [] (dpt_w (dpw_or (dpt_cmp (od_ne hr.units) (dpe_cl (ok_compare_shares T) hr (dpa_cons (dpv 1) (dpa_cons (dpv 0) dpa_nil))) (dpe_sub dpe_int (dpv 3)) (nomark _)) (dpw_or1 (dpt_cmp (od_ne hr.units) (dpe_cl (ok_compare_shares T) hr (dpa_cons (dpe_cl (ok_plus T) hr (dpa_cons (dpv 0) (dpa_cons (dpv 2) dpa_nil))) (dpa_cons (dpe_cl (ok_plus T) hr (dpa_cons (dpv 1) (dpa_cons (dpv 2) dpa_nil))) dpa_nil))) (dpv 3) (nomark _))))) (dpss_one (dps_ret [] dpe_bl)) dpss_nil) (dpss_cons (dps_if [] (dpt_w (dpw_or (dpt_cmp od_lt (dpe_cl (ok_compare_shares T) hr (dpa_cons (dpe_cl (ok_plus T) hr (dpa_cons (dpv 0) (dpa_cons (dpv 1) dpa_nil))) (dpa_cons (dpv 0) dpa_nil))) dpe_int (nomark _)) (dpw_or1 (dpt_cmp od_lt (dpe_cl (ok_compare_shares T) hr (dpa_cons (dpe_cl (ok_plus T) hr (dpa_cons (dpv 0) (dpa_cons (dpv 1) dpa_nil))) (dpa_cons (dpv 1) dpa_nil))) dpe_int (nomark _))))) (dpss_one (dps_ret [] dpe_bl)) dpss_nil) (dpss_one (dps_ret [] (dpe_cmp (od_eq hr.units) (dpe_cl (ok_compare_shares T) hr (dpa_cons (dpe_cl (ok_times T) hr (dpa_cons (dpv 0) (dpa_cons (dpv 2) dpa_nil))) (dpa_cons (dpe_cl (ok_times T) hr (dpa_cons (dpv 1) (dpa_cons (dpv 2) dpa_nil))) dpa_nil))) (dpe_mul (dpv 3) (dpe_ct cd_int T.f_int bt_int (dpa_cons (dpe_cmp (od_ne hr.units) (dpv 2) (dpe_tup (dpa_cons dpe_int (dpa_cons dpe_int dpa_nil))) (nomark _)) dpa_nil))) (nomark _)))))))
theorem ok_law_misses (T : Txt K mg) : Callee P w K mg base "_law_misses" 14 ["_law_p", "_law_q", "_law_r"] (spD K 3 m_law_misses) := T.d_law_misses.okD (k := 13) sc_law_misses fun f cdv A outer s H E hr => by
  unfold b_law_misses
  exact (dpss_cons (dps_if [] (dpt_not (dpt_val (dpe_cl (ok_law_same T 12) hr (dpa_cons (dpe_cl (ok_plus T) hr (dpa_cons (dpv 0) (dpa_cons (dpe_cl (ok_rest_of T) hr (dpa_cons (dpv 0) dpa_nil)) dpa_nil))) (dpa_cons (dpe_tup (dpa_cons dpe_int (dpa_cons dpe_int dpa_nil))) dpa_nil))))) (dpss_one (dps_ret [] dpe_bl)) dpss_nil) (dpss_cons (dps_setF [] (i := 3) sc_law_misses.nd rfl (by first | exact Or.inl rfl | exact Or.inr rfl) (dpe_cl (ok_any_of T) hr (dpa_cons (PN.fz (dn_lst (dpa_cons (dpv 0) (dpa_cons (dpv 1) dpa_nil)))) dpa_nil))) (dpss_cons (dps_if [] (dpt_not (dpt_val (dpe_cl (ok_law_same T 12) hr (dpa_cons (dpe_cl (ok_plus T) hr (dpa_cons (dpv 3) (dpa_cons (dpe_cl (ok_times T) hr (dpa_cons (dpv 0) (dpa_cons (dpv 1) dpa_nil))) dpa_nil))) (dpa_cons (dpe_cl (ok_plus T) hr (dpa_cons (dpv 0) (dpa_cons (dpv 1) dpa_nil))) dpa_nil))))) (dpss_one (dps_ret [] dpe_bl)) dpss_nil) (dpss_cons (dps_if [] (dpt_w (dpw_or (dpt_cmp od_lt (dpe_cl (ok_compare_shares T) hr (dpa_cons (dpv 3) (dpa_cons (dpv 0) dpa_nil))) dpe_int (nomark _)) (dpw_or (dpt_cmp od_lt (dpe_cl (ok_compare_shares T) hr (dpa_cons (dpv 3) (dpa_cons (dpv 1) dpa_nil))) dpe_int (nomark _)) (dpw_or1 (dpt_cmp od_gt (dpe_cl (ok_compare_shares T) hr (dpa_cons (dpe_cl (ok_times T) hr (dpa_cons (dpv 0) (dpa_cons (dpv 1) dpa_nil))) (dpa_cons (dpv 0) dpa_nil))) dpe_int (nomark _)))))) (dpss_one (dps_ret [] dpe_bl)) dpss_nil) (dpss_one (dps_ret [] (dpe_cl (ok_law_same T 12) hr (dpa_cons (dpe_cl (ok_any_of T) hr (dpa_cons (PN.fz (dn_lst (dpa_cons (dpv 0) (dpa_cons (dpv 1) (dpa_cons (dpv 2) dpa_nil))))) dpa_nil)) (dpa_cons (dpe_cl (ok_any_of T) hr (dpa_cons (PN.fz (dn_lst (dpa_cons (dpv 0) (dpa_cons (dpe_cl (ok_any_of T) hr (dpa_cons (PN.fz (dn_lst (dpa_cons (dpv 1) (dpa_cons (dpv 2) dpa_nil)))) dpa_nil)) dpa_nil)))) dpa_nil)) dpa_nil)))))))))
theorem ok_law (T : Txt K mg) : Callee P w K mg base "law" 15 ["_law_script"] (spD K 1 m_law) := T.d_law.okD (k := 14) sc_law fun f cdv A outer s H E hr => by
  unfold b_law
  exact (dpss_cons (dps_share [] (i := 1) sc_law.nd rfl (by first | exact Or.inl rfl | exact Or.inr rfl) (dn_cl (okN_law_draws T) hr (dpa_cons (dpv 0) (dpa_cons dpe_int dpa_nil)))) (dpss_cons (dps_setF [] (i := 2) sc_law.nd rfl (by first | exact Or.inl rfl | exact Or.inr rfl) (dpe_cl (ok_law_any_share T) hr (dpa_cons (dpv 1) (dpa_cons (dpv 0) dpa_nil)))) (dpss_cons (dps_setF [] (i := 3) sc_law.nd rfl (by first | exact Or.inl rfl | exact Or.inr rfl) (dpe_cl (ok_law_any_share T) hr (dpa_cons (dpv 1) (dpa_cons (dpv 0) dpa_nil)))) (dpss_cons (dps_setF [] (i := 4) sc_law.nd rfl (by first | exact Or.inl rfl | exact Or.inr rfl) (dpe_cl (ok_law_any_share T) hr (dpa_cons (dpv 1) (dpa_cons (dpv 0) dpa_nil)))) (dpss_cons (dps_if [] (dpt_cmp (od_eq hr.units) (dpe_cl (ok_law_take T) hr (dpa_cons (dpv 1) (dpa_cons dpe_int dpa_nil))) dpe_int (nomark _)) (dpss_one (dps_setF [] (i := 3) sc_law.nd rfl (by first | exact Or.inl rfl | exact Or.inr rfl) (dpe_cl (ok_law_share T) hr (dpa_cons (dpe_ix (dpv 2) dpe_int (fun _ _ => rfl)) (dpa_cons (dpe_add dpe_int (dpe_cl (ok_law_take T) hr (dpa_cons (dpv 1) (dpa_cons dpe_int dpa_nil)))) dpa_nil))))) dpss_nil) (dpss_cons (dps_setO [] (i := 5) sc_law.nd rfl (by first | exact Or.inl rfl | exact Or.inr rfl) (dn_lst (dpa_cons (dpe_tup (dpa_cons (dpe_cl (ok_plus T) hr (dpa_cons (dpv 2) (dpa_cons (dpv 3) dpa_nil))) (dpa_cons (dpe_cl (ok_plus T) hr (dpa_cons (dpv 3) (dpa_cons (dpv 2) dpa_nil))) dpa_nil))) (dpa_cons (dpe_tup (dpa_cons (dpe_cl (ok_times T) hr (dpa_cons (dpv 2) (dpa_cons (dpv 3) dpa_nil))) (dpa_cons (dpe_cl (ok_times T) hr (dpa_cons (dpv 3) (dpa_cons (dpv 2) dpa_nil))) dpa_nil))) dpa_nil)))) (dpss_cons (dps_appF [] (app_rule [] (pv 5) (dpe_tup (dpa_cons (dpe_cl (ok_plus T) hr (dpa_cons (dpe_cl (ok_plus T) hr (dpa_cons (dpv 2) (dpa_cons (dpv 3) dpa_nil))) (dpa_cons (dpv 4) dpa_nil))) (dpa_cons (dpe_cl (ok_plus T) hr (dpa_cons (dpv 2) (dpa_cons (dpe_cl (ok_plus T) hr (dpa_cons (dpv 3) (dpa_cons (dpv 4) dpa_nil))) dpa_nil))) dpa_nil))))) (dpss_cons (dps_appF [] (app_rule [] (pv 5) (dpe_tup (dpa_cons (dpe_cl (ok_times T) hr (dpa_cons (dpe_cl (ok_times T) hr (dpa_cons (dpv 2) (dpa_cons (dpv 3) dpa_nil))) (dpa_cons (dpv 4) dpa_nil))) (dpa_cons (dpe_cl (ok_times T) hr (dpa_cons (dpv 2) (dpa_cons (dpe_cl (ok_times T) hr (dpa_cons (dpv 3) (dpa_cons (dpv 4) dpa_nil))) dpa_nil))) dpa_nil))))) (dpss_cons (dps_appF [] (app_rule [] (pv 5) (dpe_tup (dpa_cons (dpe_cl (ok_times T) hr (dpa_cons (dpv 2) (dpa_cons (dpe_cl (ok_plus T) hr (dpa_cons (dpv 3) (dpa_cons (dpv 4) dpa_nil))) dpa_nil))) (dpa_cons (dpe_cl (ok_plus T) hr (dpa_cons (dpe_cl (ok_times T) hr (dpa_cons (dpv 2) (dpa_cons (dpv 3) dpa_nil))) (dpa_cons (dpe_cl (ok_times T) hr (dpa_cons (dpv 2) (dpa_cons (dpv 4) dpa_nil))) dpa_nil))) dpa_nil))))) (dpss_cons (dps_appF [] (app_rule [] (pv 5) (dpe_tup (dpa_cons (dpe_cl (ok_plus T) hr (dpa_cons (dpv 2) (dpa_cons (dpe_tup (dpa_cons dpe_int (dpa_cons dpe_int dpa_nil))) dpa_nil))) (dpa_cons (dpe_cl (ok_times T) hr (dpa_cons (dpv 2) (dpa_cons (dpe_tup (dpa_cons dpe_int (dpa_cons dpe_int dpa_nil))) dpa_nil))) dpa_nil))))) (dpss_cons (dps_for [5] pass_never rfl (dpi_seq (dpv 5)) (pg_name (i := 6) sc_law.nd rfl (by first | exact Or.inl rfl | exact Or.inr rfl)) (dpss_cons (dps_if [] (dpt_w (dpw_or (dpt_not (dpt_val (dpe_cl (ok_law_same T 12) hr (dpa_cons (dpe_ix (dpv 6) dpe_int (fun _ _ => rfl)) (dpa_cons (dpe_ix (dpv 6) dpe_int (fun _ _ => rfl)) dpa_nil))))) (dpw_or1 (dpt_not (dpt_val (dpe_cl (ok_law_same T 12) hr (dpa_cons (dpe_cl (ok_is_share T) hr (dpa_cons (dpe_ix (dpv 6) dpe_int (fun _ _ => rfl)) dpa_nil)) (dpa_cons dpe_bl dpa_nil)))))))) (dpss_one (dps_ret [] dpe_bl)) dpss_nil) (dpss_one (dps_if [] (dpt_w (dpw_or (dpt_cmp od_lt (dpe_ix (dpe_ix (dpv 6) dpe_int (fun _ _ => rfl)) dpe_int (fun _ _ => rfl)) dpe_int (nomark _)) (dpw_or (dpt_cmp od_lt (dpe_ix (dpe_ix (dpv 6) dpe_int (fun _ _ => rfl)) dpe_int (fun _ _ => rfl)) dpe_int (nomark _)) (dpw_or1 (dpt_cmp (od_ne hr.units) (dpe_cl (ok_law_share T) hr (dpa_cons (dpe_ix (dpe_ix (dpv 6) dpe_int (fun _ _ => rfl)) dpe_int (fun _ _ => rfl)) (dpa_cons (dpe_ix (dpe_ix (dpv 6) dpe_int (fun _ _ => rfl)) dpe_int (fun _ _ => rfl)) dpa_nil))) (dpe_ix (dpv 6) dpe_int (fun _ _ => rfl)) (nomark _)))))) (dpss_one (dps_ret [] dpe_bl)) dpss_nil)))) (dpss_cons (dps_if [] (dpt_not (dpt_val (dpe_cl (ok_law_kept_orders T) hr (dpa_cons (dpv 2) (dpa_cons (dpv 3) (dpa_cons (dpv 4) dpa_nil)))))) (dpss_one (dps_ret [] dpe_bl)) dpss_nil) (dpss_one (dps_ret [] (dpe_cl (ok_law_misses T) hr (dpa_cons (dpe_cl (ok_law_any_chance T) hr (dpa_cons (dpv 1) (dpa_cons (dpv 0) dpa_nil))) (dpa_cons (dpe_cl (ok_law_any_chance T) hr (dpa_cons (dpv 1) (dpa_cons (dpv 0) dpa_nil))) (dpa_cons (dpe_cl (ok_law_any_chance T) hr (dpa_cons (dpv 1) (dpa_cons (dpv 0) dpa_nil))) dpa_nil))))))))))))))))))
end
/-! ### the head -/
def fn : List He.DefD := [defD "make_share" s_make_share, defD "is_share" s_is_share, defD "plus" s_plus, defD "times" s_times, defD "compare_shares" s_compare_shares, defD "rest_of" s_rest_of, defD "product_of" s_product_of, defD "any_of" s_any_of, defD "_law_draws" s_law_draws, defD "_law_take" s_law_take, defD "_law_size" s_law_size, defD "_law_same" s_law_same, defD "_law_share" s_law_share, defD "_law_short" s_law_short, defD "_law_any_share" s_law_any_share, defD "_law_any_chance" s_law_any_chance, defD "_law_kept_orders" s_law_kept_orders, defD "_law_misses" s_law_misses, defD "law" s_law]
def fa : List He.Fa := [.glo "make_share", .glo "is_share", .glo "plus", .glo "times", .glo "compare_shares", .glo "rest_of", .glo "product_of", .glo "any_of", .glo "_law_draws", .glo "_law_take", .glo "_law_size", .glo "_law_same", .glo "_law_share", .glo "_law_short", .glo "_law_any_share", .glo "_law_any_chance", .glo "_law_kept_orders", .glo "_law_misses", .glo "law", .free "abs", .free "bool", .free "int", .free "isinstance", .free "len", .free "list", .free "range", .free "str", .free "tuple"]
def ex (K : PySem.W.Frag) : Bool := He.eqO (PySem.W.nsIn K mainGlobals "gcd") (some (some (.builtin "math.gcd")))
abbrev R : PySem.W.OpenRow := PySem.W.OpenLaw.row PySem.Challenge.rw_rightchance_k05_whole_laws_of_fractions
abbrev hk : PySem.W.Hook := hookE 4 fa fn ex
def ob (s : PySem.W.SharedT) : AlE := obsE 4 fa fn ex (HandSHeadRun.getT s)
theorem ob_eq (s : PySem.W.SharedT) : ob s = hk.obs s.abs := obsE_eq (HandSHeadRun.getT_eq s)
def loose : List Str := (["ChanceError", "NoShare", "make_share", "is_share", "plus", "times", "compare_shares", "rest_of", "product_of", "any_of", "_law_draws", "_law_take", "_law_size", "_law_same", "_law_share", "_law_short", "_law_any_share", "_law_any_chance", "_law_kept_orders", "_law_misses"] : List Str)
theorem run (w : World) : HandSHeadRun.RunEqI R (PySem.W.view R.prog [0, 24]) hk ob 20000 loose w := by
  unfold HandSHeadRun.RunEqI
  kernel_rfl
theorem txt {K : PySem.W.Frag} {h : Heap} {mg : Str → Option Value} (X : K.In h) (G : h.Ns mainGlobals mg) (c : He.SaysD fa fn K) (ce : ex K = true) : Txt K mg := by
  obtain ⟨fd0, F0⟩ := c.def_ 0 (d := defD "make_share" s_make_share) rfl
  have b0 : Binds K fd0 ["n", "d"] [] := F0.bindsN fun _ _ _ _ _ _ us hl => match us, hl with | [_, _], _ => rfl
  obtain ⟨fd1, F1⟩ := c.def_ 1 (d := defD "is_share" s_is_share) rfl
  have b1 : Binds K fd1 ["pair"] [] := F1.bindsN fun _ _ _ _ _ _ us hl => match us, hl with | [_], _ => rfl
  obtain ⟨fd2, F2⟩ := c.def_ 2 (d := defD "plus" s_plus) rfl
  have b2 : Binds K fd2 ["share", "other"] [] := F2.bindsN fun _ _ _ _ _ _ us hl => match us, hl with | [_, _], _ => rfl
  obtain ⟨fd3, F3⟩ := c.def_ 3 (d := defD "times" s_times) rfl
  have b3 : Binds K fd3 ["share", "other"] [] := F3.bindsN fun _ _ _ _ _ _ us hl => match us, hl with | [_, _], _ => rfl
  obtain ⟨fd4, F4⟩ := c.def_ 4 (d := defD "compare_shares" s_compare_shares) rfl
  have b4 : Binds K fd4 ["share", "other"] [] := F4.bindsN fun _ _ _ _ _ _ us hl => match us, hl with | [_, _], _ => rfl
  obtain ⟨fd5, F5⟩ := c.def_ 5 (d := defD "rest_of" s_rest_of) rfl
  have b5 : Binds K fd5 ["chance"] [] := F5.bindsN fun _ _ _ _ _ _ us hl => match us, hl with | [_], _ => rfl
  obtain ⟨fd6, F6⟩ := c.def_ 6 (d := defD "product_of" s_product_of) rfl
  have b6 : Binds K fd6 ["shares"] [] := F6.bindsN fun _ _ _ _ _ _ us hl => match us, hl with | [_], _ => rfl
  obtain ⟨fd7, F7⟩ := c.def_ 7 (d := defD "any_of" s_any_of) rfl
  have b7 : Binds K fd7 ["chances"] [] := F7.bindsN fun _ _ _ _ _ _ us hl => match us, hl with | [_], _ => rfl
  obtain ⟨fd8, F8⟩ := c.def_ 8 (d := defD "_law_draws" s_law_draws) rfl
  have b8 : Binds K fd8 ["_law_script", "_law_many"] [] := F8.bindsN fun _ _ _ _ _ _ us hl => match us, hl with | [_, _], _ => rfl
  obtain ⟨fd9, F9⟩ := c.def_ 9 (d := defD "_law_take" s_law_take) rfl
  have b9 : Binds K fd9 ["_law_draws_here", "_law_many"] [] := F9.bindsN fun _ _ _ _ _ _ us hl => match us, hl with | [_, _], _ => rfl
  obtain ⟨fd10, F10⟩ := c.def_ 10 (d := defD "_law_size" s_law_size) rfl
  have b10 : Binds K fd10 ["_law_draws_here", "_law_script"] [] := F10.bindsN fun _ _ _ _ _ _ us hl => match us, hl with | [_, _], _ => rfl
  obtain ⟨fd11, F11⟩ := c.def_ 11 (d := defD "_law_same" s_law_same) rfl
  have b11 : Binds K fd11 ["_law_actual", "_law_due"] [] := F11.bindsN fun _ _ _ _ _ _ us hl => match us, hl with | [_, _], _ => rfl
  obtain ⟨fd12, F12⟩ := c.def_ 12 (d := defD "_law_share" s_law_share) rfl
  have b12 : Binds K fd12 ["_law_n", "_law_d"] [] := F12.bindsN fun _ _ _ _ _ _ us hl => match us, hl with | [_, _], _ => rfl
  obtain ⟨fd13, F13⟩ := c.def_ 13 (d := defD "_law_short" s_law_short) rfl
  have b13 : Binds K fd13 ["_law_script"] [] := F13.bindsN fun _ _ _ _ _ _ us hl => match us, hl with | [_], _ => rfl
  obtain ⟨fd14, F14⟩ := c.def_ 14 (d := defD "_law_any_share" s_law_any_share) rfl
  have b14 : Binds K fd14 ["_law_draws_here", "_law_script"] [] := F14.bindsN fun _ _ _ _ _ _ us hl => match us, hl with | [_, _], _ => rfl
  obtain ⟨fd15, F15⟩ := c.def_ 15 (d := defD "_law_any_chance" s_law_any_chance) rfl
  have b15 : Binds K fd15 ["_law_draws_here", "_law_script"] [] := F15.bindsN fun _ _ _ _ _ _ us hl => match us, hl with | [_, _], _ => rfl
  obtain ⟨fd16, F16⟩ := c.def_ 16 (d := defD "_law_kept_orders" s_law_kept_orders) rfl
  have b16 : Binds K fd16 ["_law_a", "_law_b", "_law_c"] [] := F16.bindsN fun _ _ _ _ _ _ us hl => match us, hl with | [_, _, _], _ => rfl
  obtain ⟨fd17, F17⟩ := c.def_ 17 (d := defD "_law_misses" s_law_misses) rfl
  have b17 : Binds K fd17 ["_law_p", "_law_q", "_law_r"] [] := F17.bindsN fun _ _ _ _ _ _ us hl => match us, hl with | [_, _, _], _ => rfl
  obtain ⟨fd18, F18⟩ := c.def_ 18 (d := defD "law" s_law) rfl
  have b18 : Binds K fd18 ["_law_script"] [] := F18.bindsN fun _ _ _ _ _ _ us hl => match us, hl with | [_], _ => rfl
  exact ⟨He.free_ok X G (c.fact 19 (f := .free "abs") rfl),
    He.free_ok X G (c.fact 20 (f := .free "bool") rfl),
    He.free_ok X G (c.fact 21 (f := .free "int") rfl),
    He.free_ok X G (c.fact 22 (f := .free "isinstance") rfl),
    He.free_ok X G (c.fact 23 (f := .free "len") rfl),
    He.free_ok X G (c.fact 24 (f := .free "list") rfl),
    He.free_ok X G (c.fact 25 (f := .free "range") rfl),
    He.free_ok X G (c.fact 26 (f := .free "str") rfl),
    He.free_ok X G (c.fact 27 (f := .free "tuple") rfl),
    PySem.W.mg_of X G (He.eqO_ok ce),
    ⟨_, fd0, F0, He.glo_ok X G (c.fact 0 (f := .glo "make_share") rfl), b0⟩,
    ⟨_, fd1, F1, He.glo_ok X G (c.fact 1 (f := .glo "is_share") rfl), b1⟩,
    ⟨_, fd2, F2, He.glo_ok X G (c.fact 2 (f := .glo "plus") rfl), b2⟩,
    ⟨_, fd3, F3, He.glo_ok X G (c.fact 3 (f := .glo "times") rfl), b3⟩,
    ⟨_, fd4, F4, He.glo_ok X G (c.fact 4 (f := .glo "compare_shares") rfl), b4⟩,
    ⟨_, fd5, F5, He.glo_ok X G (c.fact 5 (f := .glo "rest_of") rfl), b5⟩,
    ⟨_, fd6, F6, He.glo_ok X G (c.fact 6 (f := .glo "product_of") rfl), b6⟩,
    ⟨_, fd7, F7, He.glo_ok X G (c.fact 7 (f := .glo "any_of") rfl), b7⟩,
    ⟨_, fd8, F8, He.glo_ok X G (c.fact 8 (f := .glo "_law_draws") rfl), b8⟩,
    ⟨_, fd9, F9, He.glo_ok X G (c.fact 9 (f := .glo "_law_take") rfl), b9⟩,
    ⟨_, fd10, F10, He.glo_ok X G (c.fact 10 (f := .glo "_law_size") rfl), b10⟩,
    ⟨_, fd11, F11, He.glo_ok X G (c.fact 11 (f := .glo "_law_same") rfl), b11⟩,
    ⟨_, fd12, F12, He.glo_ok X G (c.fact 12 (f := .glo "_law_share") rfl), b12⟩,
    ⟨_, fd13, F13, He.glo_ok X G (c.fact 13 (f := .glo "_law_short") rfl), b13⟩,
    ⟨_, fd14, F14, He.glo_ok X G (c.fact 14 (f := .glo "_law_any_share") rfl), b14⟩,
    ⟨_, fd15, F15, He.glo_ok X G (c.fact 15 (f := .glo "_law_any_chance") rfl), b15⟩,
    ⟨_, fd16, F16, He.glo_ok X G (c.fact 16 (f := .glo "_law_kept_orders") rfl), b16⟩,
    ⟨_, fd17, F17, He.glo_ok X G (c.fact 17 (f := .glo "_law_misses") rfl), b17⟩,
    ⟨_, fd18, F18, He.glo_ok X G (c.fact 18 (f := .glo "law") rfl), b18⟩⟩
theorem facts {P : Program} {w : World} {K : PySem.W.Frag} {h : Heap} {mg : Str → Option Value} {f : Addr} (X : K.In h) (G : h.Ns mainGlobals mg) (hfa : mg ("law" : Str) = some (.ref f)) (c : He.SaysD fa fn K) (ce : ex K = true) :
    ∃ fd : FuncData, (∀ (s : Shared) (v : Value), BindsTo s fd ⟨[v], []⟩ [("_law_script", v)]) ∧ ∀ base : Heap, K.In base → base.Ns mainGlobals mg → FnOk P w K mg base CX0 15 f fd ["_law_script"] (spD K 1 m_law) := by
  have T := txt X G c ce
  obtain ⟨fd, F⟩ := c.def_ 18 (d := defD "law" s_law) rfl
  have g := He.glo_ok X G (c.fact 18 (f := .glo "law") rfl)
  have e := hfa.symm.trans g
  cases e
  have b := FunD.bindsA (ps := ["_law_script"]) F fun _ _ _ _ _ _ us hl => match us, hl with | [_], _ => rfl
  refine ⟨fd, fun s v => b s [v] rfl, fun base _ _ => ?_⟩
  have ok := ok_law (P := P) (w := w) (base := base) T
  obtain ⟨f', fd', h1, h2, h3, h4, h5⟩ := ok.ex
  have e2 := g.symm.trans h2
  cases e2
  have e3 := fn_same (x := "law") (st := s_law) F h5
  cases e3
  exact h1
end G
open PySem PySem.W PySem.Calls PyProof.Rows
theorem G.close (hm : ∀ ns : List Int, ns.length ≤ 63 → (∀ n ∈ ns, Builtin.Int.intBits n ≤ 1048576) → ∃ S', G.m_law [.rol (ns.map .int)] [] = some (.bl true, S')) : PySem.Challenge.rw_rightchance_k05_whole_laws_of_fractions.Holds := by
  w_on; o_law
  refine HandSHeadRun.head_imp (r := OpenLaw.row PySem.Challenge.rw_rightchance_k05_whole_laws_of_fractions) (q := view (OpenLaw.row PySem.Challenge.rw_rightchance_k05_whole_laws_of_fractions).prog [0, 24]) (H := G.hk) (ob := G.ob) (loose := G.loose) (d := HandSHeadRun.topDef (OpenLaw.row PySem.Challenge.rw_rightchance_k05_whole_laws_of_fractions).prog 24) (kwd := []) G.ob_eq
    G.run (by kernel_rfl) (by kernel_rfl) (by kernel_rfl) (by rfl) (by first | assumption | decide +kernel) (by decide +kernel) ⟨rfl, rfl, rfl, rfl, rfl, by decide +kernel⟩ ?hw ?hc
  case hw => w_witness2
  case hc =>
    refine DL.walk_D (l := PySem.Challenge.rw_rightchance_k05_whole_laws_of_fractions) (k := 15) (x := "_law_script") (m := G.m_law) rfl (by kernel_rfl) ⟨rfl, by decide, by decide⟩ ?F hm
    intro w mg fa h Y Gm hmg0
    obtain ⟨K, KX, c, ce⟩ := Y
    have hmg : mg ("law" : PySem.Str) = some (.ref fa) := by
      have e : (HandSHeadRun.topDef (OpenLaw.row PySem.Challenge.rw_rightchance_k05_whole_laws_of_fractions).prog 24).name = ("law" : PySem.Str) := by kernel_rfl
      rw [← e]
      exact hmg0
    obtain ⟨fd, hb, hF⟩ := G.facts (P := (PySem.Challenge.rw_rightchance_k05_whole_laws_of_fractions).prog) (w := w) KX Gm hmg c ce
    exact ⟨K, fd, KX, hb, hF⟩


namespace G
open PySem L2 DL
local macro_rules | `(tactic| walk_at "wp") => `(tactic| simp only [DL.w_seq, DL.w_d2, DL.w_d1, DL.w_dC, DL.w_call, DL.w_nil, DL.w_cons, DL.w_tup, DL.w_nLst, DL.w_dFz, DL.w_nList, DL.w_dFn, DL.w_nFn, DL.w_iRg, DL.w_iSeq, DL.w_tYes, DL.isB_bl, DL.w_dtE, DL.w_not, DL.w_and, DL.w_or, DL.w_andV, DL.w_orV, DL.w_ifE, DL.k_nx, DL.k_rt, DL.k_ro, DL.k_bk, DL.k_ct, DL.w_pass, DL.w_brk, DL.w_cnt, DL.w_if, DL.w_ret, DL.w_retN, DL.sRetO_s, DL.sRetO_z, DL.w_setF, DL.w_setP, DL.w_exp, DL.w_setO, DL.w_share, DL.w_mutF, DL.w_mutP, DL.fzE_c, DL.fzE_n, DL.frz_c, DL.frz_n, DL.fz1_no, DL.fz1_val, DL.fz1_own, DL.fz1_ownF, DL.frz1_no, DL.frz1_val, DL.frz1_own, DL.frz1_F, DL.chk_nil, DL.o_add, DL.o_addS, DL.o_addL, DL.o_addT, DL.o_sub, DL.o_mul, DL.o_fdiv, DL.o_mod, DL.o_pow, DL.o_shl, DL.o_neg, DL.o_eqI, DL.o_neI, DL.o_eqS, DL.o_neS, DL.o_eqB, DL.o_neB, DL.o_lt, DL.o_le, DL.o_gt, DL.o_ge, DL.o_is, DL.o_isn, DL.o_in, DL.o_nin, DL.o_inL, DL.o_inT, DL.o_inR, DL.o_inS, DL.o_idxL, DL.o_idxT, DL.o_idxR, DL.o_abs, DL.o_int, DL.o_intB, DL.o_gcd, DL.o_tupL, DL.o_tupT, DL.o_tupR, DL.o_bits, DL.q_lst, DL.q_rol, DL.q_tup, DL.it_lst, DL.it_rol, DL.it_tup, DL.it_str, DL.rg1, DL.rg2, DL.w_len, DL.l_lst, DL.l_rol, DL.l_tup, DL.l_str, DL.w_popS, DL.kD_rt, DL.kD_nx, DL.kD_ro, DL.kN_ro, DL.w_fnD, DL.w_fnN, DL.w_for, DL.w_forP, DL.w_comp, DL.w_own0, DL.w_setIP, DL.is_non, DL.is_bl, DL.is_int, DL.is_str, DL.is_tup, DL.is_lst, DL.w_setT, DL.b_n, DL.b_t, DL.b_nil, DL.b_cons, DL.putS_n, DL.putS_c, DL.w_append, DL.kL_nx, DL.kL_ct, DL.kL_bk, DL.kL_rt, DL.kL_ro, DL.lp_n, DL.lc_n, DL.putD_n, DL.putD_c, DL.wipe_n, DL.wipe_c, DL.o_at0, DL.o_at1, DL.o_at2, DL.o_at3, DL.o_at4, DL.isTy, DL.isNon, DL.dV_s, DL.dV_z, DL.wp_some, DL.wp_none, DL.wp_map, DL.envOf, List.any_cons, List.any_nil, String.reduceBEq, String.reduceEq, Bool.true_and, Bool.and_true, Bool.or_true, Bool.true_or, Bool.false_or, Bool.not_true, Bool.not_false, Bool.and_false, Bool.false_and, decide_true, decide_false, bne_self_eq_false, beq_self_eq_true, Bool.true_eq_false, true_and, and_true, List.map_cons, List.map_nil, List.length_cons, List.length_nil, Nat.zero_add, Nat.reduceAdd, Nat.reduceSub, List.replicate_succ, List.replicate_zero, List.cons_append, List.nil_append, List.set_cons_succ, List.set_cons_zero, List.getElem?_cons_zero, List.getElem?_cons_succ, List.contains_cons, List.contains_nil, Bool.or_false, Nat.reduceBEq, Bool.false_eq_true, if_false, if_true, decide_eq_true_eq, Bool.not_eq_true', decide_eq_false_iff_not])
local macro_rules | `(tactic| walk_at "w1") => `(tactic| simp only [DL.w_d2, DL.w_d1, DL.w_dC, DL.w_call, DL.w_nil, DL.w_cons, DL.w_tup, DL.w_nLst, DL.w_dFz, DL.w_nList, DL.w_dFn, DL.w_nFn, DL.w_iRg, DL.w_iSeq, DL.w_tYes, DL.isB_bl, DL.w_dtE, DL.w_not, DL.w_and, DL.w_or, DL.w_andV, DL.w_orV, DL.w_ifE, DL.k_nx, DL.k_rt, DL.k_ro, DL.k_bk, DL.k_ct, DL.w_pass, DL.w_brk, DL.w_cnt, DL.w_if, DL.w_ret, DL.w_retN, DL.sRetO_s, DL.sRetO_z, DL.w_setF, DL.w_setP, DL.w_exp, DL.w_setO, DL.w_share, DL.w_mutF, DL.w_mutP, DL.fzE_c, DL.fzE_n, DL.frz_c, DL.frz_n, DL.fz1_no, DL.fz1_val, DL.fz1_own, DL.fz1_ownF, DL.frz1_no, DL.frz1_val, DL.frz1_own, DL.frz1_F, DL.chk_nil, DL.o_add, DL.o_addS, DL.o_addL, DL.o_addT, DL.o_sub, DL.o_mul, DL.o_fdiv, DL.o_mod, DL.o_pow, DL.o_shl, DL.o_neg, DL.o_eqI, DL.o_neI, DL.o_eqS, DL.o_neS, DL.o_eqB, DL.o_neB, DL.o_lt, DL.o_le, DL.o_gt, DL.o_ge, DL.o_is, DL.o_isn, DL.o_in, DL.o_nin, DL.o_inL, DL.o_inT, DL.o_inR, DL.o_inS, DL.o_idxL, DL.o_idxT, DL.o_idxR, DL.o_abs, DL.o_int, DL.o_intB, DL.o_gcd, DL.o_tupL, DL.o_tupT, DL.o_tupR, DL.o_bits, DL.q_lst, DL.q_rol, DL.q_tup, DL.it_lst, DL.it_rol, DL.it_tup, DL.it_str, DL.rg1, DL.rg2, DL.w_len, DL.l_lst, DL.l_rol, DL.l_tup, DL.l_str, DL.w_popS, DL.kD_rt, DL.kD_nx, DL.kD_ro, DL.kN_ro, DL.w_fnD, DL.w_fnN, DL.w_for, DL.w_forP, DL.w_comp, DL.w_own0, DL.w_setIP, DL.is_non, DL.is_bl, DL.is_int, DL.is_str, DL.is_tup, DL.is_lst, DL.w_setT, DL.b_n, DL.b_t, DL.b_nil, DL.b_cons, DL.putS_n, DL.putS_c, DL.w_append, DL.kL_nx, DL.kL_ct, DL.kL_bk, DL.kL_rt, DL.kL_ro, DL.lp_n, DL.lc_n, DL.putD_n, DL.putD_c, DL.wipe_n, DL.wipe_c, DL.o_at0, DL.o_at1, DL.o_at2, DL.o_at3, DL.o_at4, DL.isTy, DL.isNon, DL.dV_s, DL.dV_z, DL.wp_some, DL.wp_none, DL.wp_map, DL.envOf, List.any_cons, List.any_nil, String.reduceBEq, String.reduceEq, Bool.true_and, Bool.and_true, Bool.or_true, Bool.true_or, Bool.false_or, Bool.not_true, Bool.not_false, Bool.and_false, Bool.false_and, decide_true, decide_false, bne_self_eq_false, beq_self_eq_true, Bool.true_eq_false, true_and, and_true, List.map_cons, List.map_nil, List.length_cons, List.length_nil, Nat.zero_add, Nat.reduceAdd, Nat.reduceSub, List.replicate_succ, List.replicate_zero, List.cons_append, List.nil_append, List.set_cons_succ, List.set_cons_zero, List.getElem?_cons_zero, List.getElem?_cons_succ, List.contains_cons, List.contains_nil, Bool.or_false, Nat.reduceBEq, Bool.false_eq_true, if_false, if_true, decide_eq_true_eq, Bool.not_eq_true', decide_eq_false_iff_not])
local macro_rules | `(tactic| walk_at "wl") => `(tactic| simp only [DL.w_seq, DL.lp_c, DL.lc_c, DL.w_d2, DL.w_d1, DL.w_dC, DL.w_call, DL.w_nil, DL.w_cons, DL.w_tup, DL.w_nLst, DL.w_dFz, DL.w_nList, DL.w_dFn, DL.w_nFn, DL.w_iRg, DL.w_iSeq, DL.w_tYes, DL.isB_bl, DL.w_dtE, DL.w_not, DL.w_and, DL.w_or, DL.w_andV, DL.w_orV, DL.w_ifE, DL.k_nx, DL.k_rt, DL.k_ro, DL.k_bk, DL.k_ct, DL.w_pass, DL.w_brk, DL.w_cnt, DL.w_if, DL.w_ret, DL.w_retN, DL.sRetO_s, DL.sRetO_z, DL.w_setF, DL.w_setP, DL.w_exp, DL.w_setO, DL.w_share, DL.w_mutF, DL.w_mutP, DL.fzE_c, DL.fzE_n, DL.frz_c, DL.frz_n, DL.fz1_no, DL.fz1_val, DL.fz1_own, DL.fz1_ownF, DL.frz1_no, DL.frz1_val, DL.frz1_own, DL.frz1_F, DL.chk_nil, DL.o_add, DL.o_addS, DL.o_addL, DL.o_addT, DL.o_sub, DL.o_mul, DL.o_fdiv, DL.o_mod, DL.o_pow, DL.o_shl, DL.o_neg, DL.o_eqI, DL.o_neI, DL.o_eqS, DL.o_neS, DL.o_eqB, DL.o_neB, DL.o_lt, DL.o_le, DL.o_gt, DL.o_ge, DL.o_is, DL.o_isn, DL.o_in, DL.o_nin, DL.o_inL, DL.o_inT, DL.o_inR, DL.o_inS, DL.o_idxL, DL.o_idxT, DL.o_idxR, DL.o_abs, DL.o_int, DL.o_intB, DL.o_gcd, DL.o_tupL, DL.o_tupT, DL.o_tupR, DL.o_bits, DL.q_lst, DL.q_rol, DL.q_tup, DL.it_lst, DL.it_rol, DL.it_tup, DL.it_str, DL.rg1, DL.rg2, DL.w_len, DL.l_lst, DL.l_rol, DL.l_tup, DL.l_str, DL.w_popS, DL.kD_rt, DL.kD_nx, DL.kD_ro, DL.kN_ro, DL.w_fnD, DL.w_fnN, DL.w_for, DL.w_forP, DL.w_comp, DL.w_own0, DL.w_setIP, DL.is_non, DL.is_bl, DL.is_int, DL.is_str, DL.is_tup, DL.is_lst, DL.w_setT, DL.b_n, DL.b_t, DL.b_nil, DL.b_cons, DL.putS_n, DL.putS_c, DL.w_append, DL.kL_nx, DL.kL_ct, DL.kL_bk, DL.kL_rt, DL.kL_ro, DL.lp_n, DL.lc_n, DL.putD_n, DL.putD_c, DL.wipe_n, DL.wipe_c, DL.o_at0, DL.o_at1, DL.o_at2, DL.o_at3, DL.o_at4, DL.isTy, DL.isNon, DL.dV_s, DL.dV_z, DL.wp_some, DL.wp_none, DL.wp_map, DL.envOf, List.any_cons, List.any_nil, String.reduceBEq, String.reduceEq, Bool.true_and, Bool.and_true, Bool.or_true, Bool.true_or, Bool.false_or, Bool.not_true, Bool.not_false, Bool.and_false, Bool.false_and, decide_true, decide_false, bne_self_eq_false, beq_self_eq_true, Bool.true_eq_false, true_and, and_true, List.map_cons, List.map_nil, List.length_cons, List.length_nil, Nat.zero_add, Nat.reduceAdd, Nat.reduceSub, List.replicate_succ, List.replicate_zero, List.cons_append, List.nil_append, List.set_cons_succ, List.set_cons_zero, List.getElem?_cons_zero, List.getElem?_cons_succ, List.contains_cons, List.contains_nil, Bool.or_false, Nat.reduceBEq, Bool.false_eq_true, if_false, if_true, decide_eq_true_eq, Bool.not_eq_true', decide_eq_false_iff_not])
theorem lg_lt {i : Int} {k : Nat} (hk : 0 < k) (h : i.natAbs < 2 ^ k) : i.natAbs.log2 < k := by
  by_cases e : i.natAbs = 0
  · rw [e]; simpa using hk
  · exact (Nat.log2_lt e).2 h
theorem mulOk_of {i j : Int} (h : i.natAbs.log2 + j.natAbs.log2 < 67108864) : mulOk i j = true := decide_eq_true h
theorem lgn_of {a k : Nat} (h : a < 2 ^ (k + 1)) : a.log2 ≤ k := by
  by_cases e : a = 0
  · subst e; simp
  · exact Nat.le_of_lt_succ ((Nat.log2_lt e).2 h)
theorem lgn_lt {a : Nat} : a < 2 ^ (a.log2 + 1) := Nat.lt_log2_self
theorem lgn_mul (a b : Nat) : (a * b).log2 ≤ a.log2 + b.log2 + 1 := by
  refine lgn_of ?_
  have := Nat.mul_lt_mul'' (@lgn_lt a) (@lgn_lt b)
  rw [← Nat.pow_add] at this
  rwa [show a.log2 + b.log2 + 1 + 1 = a.log2 + 1 + (b.log2 + 1) by omega]
theorem lgn_add (a b : Nat) : (a + b).log2 ≤ a.log2 + b.log2 + 1 := by
  refine lgn_of ?_
  have h1 : 2 ^ (a.log2 + 1) ≤ 2 ^ (a.log2 + b.log2 + 1) := Nat.pow_le_pow_right (by decide) (by omega)
  have h2 : 2 ^ (b.log2 + 1) ≤ 2 ^ (a.log2 + b.log2 + 1) := Nat.pow_le_pow_right (by decide) (by omega)
  have := @lgn_lt a
  have := @lgn_lt b
  rw [Nat.pow_succ _ (a.log2 + b.log2 + 1)]
  omega
theorem take_wp {l : List Int} {m : Int} {Q : D × Sh → Prop} (hm : 0 < m) (h : ∀ v (l' : List Int), 0 ≤ v → v < m → Q (.int v, [l'.map .int])) : wp (m_law_take [.ref 0, .int m] [l.map .int]) Q := by
  unfold m_law_take b_law_take
  walk_at "wp"
  rcases List.eq_nil_or_concat l with rfl | ⟨l', x, rfl⟩
  · exact h 0 [] (by omega) hm
  · have e : ¬ ((((l'.concat x).map D.int).length : Int) = 0) := by simp; omega
    simp only [e, if_false, List.concat_eq_append, List.map_append, List.map_cons, List.map_nil, List.length_append, List.length_cons, List.length_nil, List.dropLast_concat]
    rw [show (List.map D.int l' ++ [D.int x])[(List.map D.int l').length + (0 + 1) - 1]? = some (.int x) by simp]
    walk_at "wp"
    exact ⟨by omega, h _ l' (Int.fmod_nonneg_of_pos _ hm) (Int.fmod_lt_of_pos _ hm)⟩
theorem size_lst {l cs : List Int} {Q : D × Sh → Prop} (P : Int → Prop) (h0 : ∀ v, 0 ≤ v → v < 10 ^ 15 → P v) (hc : ∀ c ∈ cs, P (if c < 0 then -c else c)) (h : ∀ v (l' : List Int), 0 ≤ v → P v → Q (.int v, [l'.map .int])) :
    wp (m_law_size [.ref 0, .lst (cs.map .int)] [l.map .int]) Q := by
  unfold m_law_size b_law_size
  walk_at "wp"
  refine take_wp (by decide) fun v l1 h1 h2 => ?_
  walk_at "wp"
  split
  · refine take_wp (by decide) fun v l1 h1 h2 => ?_
    walk_at "wp"
    exact h _ _ h1 (h0 _ h1 (by omega))
  · split
    · refine take_wp (by decide) fun v l1 h1 h2 => ?_
      walk_at "wp"
      exact h _ _ h1 (h0 _ h1 (by omega))
    · have lp : ∀ QO : Out → Prop, (∀ (a : Int) (l' : List Int) x4, 0 ≤ a → a < 1000 ^ 5 → QO (.nx [Sl.val (D.ref 0), Sl.val (D.lst (List.map D.int cs)), Sl.val (D.int v), Sl.val (D.int a), x4] [l'.map .int])) →
          wp (loopF (Tg.n 4) l_law_size_1 (rngO 0 (Int.toNat 5))
            [Sl.val (D.ref 0), Sl.val (D.lst (List.map D.int cs)), Sl.val (D.int v), Sl.val (D.int 0), Sl.no] [List.map D.int l1]) QO := fun QO hQ => by
        refine loop_n (fun xs σ S => ∃ (a : Int) (l' : List Int) (x4 : Sl), xs.length ≤ 5 ∧ 0 ≤ a ∧ a < 1000 ^ (5 - xs.length) ∧ σ = [Sl.val (D.ref 0), Sl.val (D.lst (List.map D.int cs)), Sl.val (D.int v), Sl.val (D.int a), x4] ∧ S = [l'.map .int]) QO _ _ _ ⟨0, l1, .no, by decide, by decide, by decide, rfl, rfl⟩ ?_ ?_
        · rintro x r _ _ ⟨a, l', x4, h3, h4, h5, rfl, rfl⟩
          simp only [List.length_cons] at h3 h5
          walk_at "wp"
          have h6 : a < 1000 ^ 5 := Int.lt_of_lt_of_le h5 (by exact_mod_cast Nat.pow_le_pow_right (by decide) (show 5 - (r.length + 1) ≤ 5 by omega))
          refine ⟨mulOk_of ?_, take_wp (by decide) fun v l1 h1 h2 => ?_⟩
          · have := @lg_lt a 50 (by decide) (by omega)
            have : ((1000 : Int).natAbs.log2) = 9 := by decide
            omega
          · walk_at "wp"
            refine ⟨_, _, _, by omega, ?_, ?_, rfl, rfl⟩
            · omega
            · have : (1000 : Int) ^ (5 - r.length) = 1000 ^ (5 - (r.length + 1)) * 1000 := by
                rw [← Int.pow_succ]
                congr 1
                omega
              omega
        · rintro _ _ ⟨a, l', x4, h3, h4, h5, rfl, rfl⟩
          exact hQ _ _ _ h4 h5
      split
      · refine ⟨by decide, lp _ fun a l' x4 h3 h4 => ?_⟩
        walk_at "wp"
        exact h _ _ h3 (h0 _ h3 (by omega))
      · split
        · refine ⟨by decide, lp _ fun a l' x4 h3 h4 => ?_⟩
          walk_at "wp"
          exact h _ _ h3 (h0 _ h3 (by omega))
        · rename_i hl
          refine take_wp (by omega) fun v l1 h1 h2 => ?_
          walk_at "wp"
          obtain ⟨n, rfl⟩ := Int.eq_ofNat_of_zero_le h1
          rw [DL.atI_nat]
          simp only [List.length_map] at h2
          have h3 : n < cs.length := by omega
          rw [List.getElem?_map, List.getElem?_eq_getElem h3]
          walk_at "wp"
          exact h _ _ (by split <;> omega) (hc _ (List.getElem_mem h3))
theorem size_rol {l cs : List Int} {Q : D × Sh → Prop} (P : Int → Prop) (h0 : ∀ v, 0 ≤ v → v < 10 ^ 15 → P v) (hc : ∀ c ∈ cs, P (if c < 0 then -c else c)) (h : ∀ v (l' : List Int), 0 ≤ v → P v → Q (.int v, [l'.map .int])) :
    wp (m_law_size [.ref 0, .rol (cs.map .int)] [l.map .int]) Q := by
  unfold m_law_size b_law_size
  walk_at "wp"
  refine take_wp (by decide) fun v l1 h1 h2 => ?_
  walk_at "wp"
  split
  · refine take_wp (by decide) fun v l1 h1 h2 => ?_
    walk_at "wp"
    exact h _ _ h1 (h0 _ h1 (by omega))
  · split
    · refine take_wp (by decide) fun v l1 h1 h2 => ?_
      walk_at "wp"
      exact h _ _ h1 (h0 _ h1 (by omega))
    · have lp : ∀ QO : Out → Prop, (∀ (a : Int) (l' : List Int) x4, 0 ≤ a → a < 1000 ^ 5 → QO (.nx [Sl.val (D.ref 0), Sl.val (D.rol (List.map D.int cs)), Sl.val (D.int v), Sl.val (D.int a), x4] [l'.map .int])) →
          wp (loopF (Tg.n 4) l_law_size_1 (rngO 0 (Int.toNat 5))
            [Sl.val (D.ref 0), Sl.val (D.rol (List.map D.int cs)), Sl.val (D.int v), Sl.val (D.int 0), Sl.no] [List.map D.int l1]) QO := fun QO hQ => by
        refine loop_n (fun xs σ S => ∃ (a : Int) (l' : List Int) (x4 : Sl), xs.length ≤ 5 ∧ 0 ≤ a ∧ a < 1000 ^ (5 - xs.length) ∧ σ = [Sl.val (D.ref 0), Sl.val (D.rol (List.map D.int cs)), Sl.val (D.int v), Sl.val (D.int a), x4] ∧ S = [l'.map .int]) QO _ _ _ ⟨0, l1, .no, by decide, by decide, by decide, rfl, rfl⟩ ?_ ?_
        · rintro x r _ _ ⟨a, l', x4, h3, h4, h5, rfl, rfl⟩
          simp only [List.length_cons] at h3 h5
          walk_at "wp"
          have h6 : a < 1000 ^ 5 := Int.lt_of_lt_of_le h5 (by exact_mod_cast Nat.pow_le_pow_right (by decide) (show 5 - (r.length + 1) ≤ 5 by omega))
          refine ⟨mulOk_of ?_, take_wp (by decide) fun v l1 h1 h2 => ?_⟩
          · have := @lg_lt a 50 (by decide) (by omega)
            have : ((1000 : Int).natAbs.log2) = 9 := by decide
            omega
          · walk_at "wp"
            refine ⟨_, _, _, by omega, ?_, ?_, rfl, rfl⟩
            · omega
            · have : (1000 : Int) ^ (5 - r.length) = 1000 ^ (5 - (r.length + 1)) * 1000 := by
                rw [← Int.pow_succ]
                congr 1
                omega
              omega
        · rintro _ _ ⟨a, l', x4, h3, h4, h5, rfl, rfl⟩
          exact hQ _ _ _ h4 h5
      split
      · refine ⟨by decide, lp _ fun a l' x4 h3 h4 => ?_⟩
        walk_at "wp"
        exact h _ _ h3 (h0 _ h3 (by omega))
      · split
        · refine ⟨by decide, lp _ fun a l' x4 h3 h4 => ?_⟩
          walk_at "wp"
          exact h _ _ h3 (h0 _ h3 (by omega))
        · rename_i hl
          refine take_wp (by omega) fun v l1 h1 h2 => ?_
          walk_at "wp"
          obtain ⟨n, rfl⟩ := Int.eq_ofNat_of_zero_le h1
          rw [DL.atI_nat]
          simp only [List.length_map] at h2
          have h3 : n < cs.length := by omega
          rw [List.getElem?_map, List.getElem?_eq_getElem h3]
          walk_at "wp"
          exact h _ _ (by split <;> omega) (hc _ (List.getElem_mem h3))
theorem size_wp {l cs : List Int} {Q : D × Sh → Prop} (hc : ∀ c ∈ cs, c.natAbs < 10 ^ 59) (h : ∀ v (l' : List Int), 0 ≤ v → v < 10 ^ 59 → Q (.int v, [l'.map .int])) :
    wp (m_law_size [.ref 0, .lst (cs.map .int)] [l.map .int]) Q :=
  size_lst (· < 10 ^ 59) (fun v h1 h2 => by show v < _; omega) (fun c hc' => by have := hc c hc'; show (if c < 0 then -c else c) < _; split <;> omega) h
/-- the draws -/
theorem draws_wp {ns : List Int} {m : Nat} {Q : List D × Sh → Prop} (hm : m ≤ 1000000) (hl : ns.length ≤ 1000000) (hc : ∀ c ∈ ns, c.natAbs.log2 ≤ 1048576) (h : ∀ (l : List Int), Q (l.map .int, [])) :
    wp (mN_law_draws [.rol (ns.map .int), .int m] []) Q := by
  unfold mN_law_draws b_law_draws
  walk_at "w1"
  rw [w_seq]
  walk_at "w1"
  refine wp_ok (comp_map id _ _ ?_ ?_) ?_
  · intro d hd
    obtain ⟨c, hc', rfl⟩ := List.mem_map.1 hd
    exact ⟨_, rfl, rfl, rfl⟩
  · simp only [List.length_nil, List.length_map, sizeLine]; omega
  walk_at "w1"
  simp only [List.map_id, List.nil_append]
  rw [w_seq]
  refine wp_mono (Q := fun (o : Out) => ∃ cs : List Int, cs ≠ [] ∧ (∀ c ∈ cs, c.natAbs.log2 ≤ 1048576) ∧ o = .nx [Sl.val (D.rol (List.map D.int ns)), Sl.val (D.int ↑m), Sl.own (cs.map .int), Sl.no, Sl.no, Sl.no, Sl.no, Sl.no, Sl.no] []) ?_ ?_
  · walk_at "w1"
    refine ⟨rfl, ?_⟩
    split
    · rename_i e
      rw [kOwn_eq rfl]
      walk_at "wp"
      have : ns = [] := by simpa using e
      subst this
      exact ⟨by decide, [0], by simp, by simp, rfl⟩
    · rename_i e
      exact ⟨ns, fun h => e (by simp [h]), hc, rfl⟩
  · rintro _ ⟨cs, hne, hcs, rfl⟩
    walk_at "wp"
    refine ⟨by decide, ⟨⟨by omega, by omega⟩, ?_⟩⟩
    have hpos : 0 < cs.length := List.length_pos_iff.2 hne
    refine loop_n (fun xs σ S => S = [] ∧ ∃ (rs ds : List Int) (x5 x6 x8 : Sl), rs.length = cs.length ∧ ds.length + xs.length ≤ m ∧ (∀ x ∈ xs, ∃ i : Nat, i < 2000000 ∧ x = .int i) ∧
      σ = [Sl.val (D.rol (List.map D.int ns)), Sl.val (D.int ↑m), Sl.val (.lst (cs.map .int)), Sl.own (rs.map .int), Sl.own (ds.map .int), x5, x6, Sl.no, x8]) _ _ _ _ ⟨rfl, cs, [], .no, .no, .no, rfl, ?_, ?_, rfl⟩ ?_ ?_
    · simp [rngO]
    · intro x hx
      simp only [rngO, List.mem_map, List.mem_range] at hx
      obtain ⟨i, hi, rfl⟩ := hx
      exact ⟨i, by omega, by simp⟩
    · rintro x r _ _ ⟨rfl, rs, ds, x5, x6, x8, h1, h2, h3, rfl⟩
      obtain ⟨i, hi, rfl⟩ := h3 x (by simp)
      simp only [List.length_cons] at h2
      walk_at "wp"
      have hat : ∃ n : Nat, n < cs.length ∧ (↑i : Int).fmod ↑(List.map D.int cs).length = n := by
        have e1 := Int.fmod_nonneg_of_pos (i : Int) (b := ((List.map D.int cs).length : Int)) (by simp; omega)
        have e2 := Int.fmod_lt_of_pos (i : Int) (b := ((List.map D.int cs).length : Int)) (by simp; omega)
        obtain ⟨n, e3⟩ := Int.eq_ofNat_of_zero_le e1
        refine ⟨n, ?_, e3⟩
        rw [e3] at e2
        simpa using e2
      obtain ⟨n, hn, e3⟩ := hat
      rw [e3]
      simp only [DL.atI_nat, List.getElem?_map, List.getElem?_eq_getElem hn, List.getElem?_eq_getElem (show n < rs.length by omega), Option.map_some]
      walk_at "wp"
      refine ⟨by simp; omega, by decide, rfl, ?_⟩
      split
      · refine ⟨by decide, rfl, ?_⟩
        rw [kOwn_eq rfl]
        simp only [appendO, wp_iteN]
        refine ⟨by simp [sizeLine]; omega, ?_⟩
        walk_at "wp"
        simp only [DL.atI_nat, List.getElem?_map, List.getElem?_eq_getElem (show n < rs.length by omega), Option.map_some]
        walk_at "wp"
        refine ⟨by decide, rfl, ?_⟩
        rw [kSetI_eq rfl (by simp; omega)]
        exact ⟨rfl, rs.set n (rs[n].fdiv 1000), ds ++ [rs[n].fmod 1000], Sl.val (D.int ↑i), Sl.val (D.int ↑n), x8, by simpa using h1, by simp; omega, fun x hx => h3 x (by simp [hx]), by simp [List.map_set]⟩
      · have hb1 := hcs _ (List.getElem_mem hn)
        have hb2 : (48271 : Int).natAbs.log2 = 15 := by decide
        have hb3 : (69621 : Int).natAbs.log2 = 16 := by decide
        have hb4 : (3 : Int).natAbs.log2 = 1 := by decide
        have hb5 := @lg_lt (i : Int) 30 (by decide) (by omega)
        refine ⟨mulOk_of (by omega), mulOk_of (by omega), by decide, ?_⟩
        generalize hv : Int.fmod _ 2147483647 = v
        have hv1 : 0 ≤ v := hv ▸ Int.fmod_nonneg_of_pos _ (by decide)
        have hv2 : v < 2147483647 := hv ▸ Int.fmod_lt_of_pos _ (by decide)
        have hb6 := @lg_lt v 40 (by decide) (by omega)
        refine ⟨mulOk_of (by omega), mulOk_of (by omega), by decide, ?_⟩
        rw [kOwn_eq rfl]
        simp only [appendO, wp_iteN]
        refine ⟨by simp [sizeLine]; omega, ?_⟩
        walk_at "wp"
        exact ⟨rs, ds ++ [(v * v + 3 * v + i).fmod 1000003], Sl.val (D.int ↑i), Sl.val (D.int ↑n), Sl.val (.int v), h1, by simp; omega, fun x hx => h3 x (by simp [hx]), by simp⟩
    · rintro _ _ ⟨rfl, rs, ds, x5, x6, x8, h1, h2, h3, rfl⟩
      walk_at "wp"
      rw [kOwn_eq rfl]
      walk_at "wp"
      rw [← List.map_reverse]
      exact h ds.reverse
/-- lowest terms -/
def shD (n d : Nat) : D := .tup [.int ((n / Nat.gcd n d : Nat) : Int), .int ((d / Nat.gcd n d : Nat) : Int)]
theorem short_ok {ns : List Int} {S : Sh} (hl : ns.length ≤ 1000000) : ∃ cs : List Int, (∀ c ∈ cs, c.natAbs < 10 ^ 59) ∧ m_law_short [.rol (ns.map .int)] S = some (.lst (cs.map .int), S) := by
  refine ⟨ns.map fun c => c.fmod (10 ^ 59), ?_, ?_⟩
  · intro c hc
    obtain ⟨x, _, rfl⟩ := List.mem_map.1 hc
    have h1 := Int.fmod_nonneg_of_pos x (b := 10 ^ 59) (by decide)
    have h2 := Int.fmod_lt_of_pos x (b := 10 ^ 59) (by decide)
    omega
  · apply wp_eq
    unfold m_law_short b_law_short
    walk_at "wp"
    refine wp_ok (comp_map (fun d => match d with | .int c => .int (c.fmod (10 ^ 59)) | d => d) _ _ ?_ ?_) ?_
    · intro d hd
      obtain ⟨c, hc', rfl⟩ := List.mem_map.1 hd
      refine ⟨_, rfl, rfl, ?_⟩
      apply wp_eq
      show wp ((d2 modD (dCall intO (dCons (dV 1) dNil)) (d2 powD (dC (D.int 10)) (dC (D.int 59)))) [some (D.rol (List.map D.int ns)), some (.int c)] S) _
      walk_at "wp"
      exact ⟨⟨by decide, by decide, by decide⟩, by decide, rfl⟩
    · simp only [List.length_nil, List.length_map, sizeLine]; omega
    · simp only [List.nil_append, List.map_map]
      rfl
theorem euc_half {a b : Nat} (hb : 0 < b) (h : b < a) : a % b < (a + 1) / 2 := by
  by_cases h2 : 2 * b ≤ a
  · have := Nat.mod_lt a hb
    omega
  · have h3 : a / b = 1 := Nat.div_eq_of_lt_le (by omega) (by omega)
    have h4 := Nat.div_add_mod a b
    rw [h3] at h4
    omega
theorem share_eq {n d : Nat} {S : Sh} (hd : 0 < d) (hb : d < 2 ^ 8000) : m_law_share [.int n, .int d] S = some (shD n d, S) := by
  apply wp_eq
  unfold m_law_share b_law_share
  walk_at "w1"
  rw [w_seq]
  walk_at "w1"
  rw [w_seq]
  walk_at "w1"
  rw [w_seq]
  walk_at "w1"
  have hlog := @lg_lt (d : Int) 8000 (by decide) (by omega)
  have hbits : ∃ k : Nat, d < 2 ^ k ∧ k ≤ 8000 ∧ Builtin.Int.intBits (d : Int) = k := by
    refine ⟨d.log2 + 1, Nat.lt_log2_self, by have : d.log2 < 8000 := hlog; omega, ?_⟩
    unfold Builtin.Int.intBits
    rw [if_neg (by simp; omega)]
    simp
  obtain ⟨k, hk1, hk2, hk3⟩ := hbits
  rw [hk3]
  refine ⟨mulOk_of ?_, ⟨by omega, by omega⟩, ?_⟩
  · have := @lg_lt (k : Int) 20 (by decide) (by omega)
    have : ((2 : Int).natAbs.log2) = 1 := by decide
    omega
  have fin : ∀ (S : Sh) (a : Nat), Nat.gcd a 0 = Nat.gcd n d → ((↑a : Int) ≠ 0 ∧ (↑a : Int).natAbs.log2 < 9000) ∧ ((↑a : Int) ≠ 0 ∧ (↑a : Int).natAbs.log2 < 9000) ∧
      2 ≤ sizeLine ∧ (D.tup [D.int ((↑n : Int).fdiv ↑a), D.int ((↑d : Int).fdiv ↑a)], S) = (shD n d, S) := by
    intro S a e
    rw [Nat.gcd_zero_right] at e
    subst e
    have e1 := Nat.gcd_pos_of_pos_right n hd
    have e2 := Nat.le_of_dvd hd (Nat.gcd_dvd_right n d)
    have e3 := @lg_lt (Nat.gcd n d : Int) 8000 (by decide) (by omega)
    refine ⟨⟨by omega, by omega⟩, ⟨by omega, by omega⟩, by decide, ?_⟩
    unfold shD
    rw [Int.fdiv_eq_ediv_of_nonneg _ (by omega), Int.fdiv_eq_ediv_of_nonneg _ (by omega)]
    simp
  refine loop_n (fun xs σ S' => S' = S ∧ ∃ (a b : Nat) (x4 x5 : Sl), Nat.gcd a b = Nat.gcd n d ∧ (∃ k, (b < 2 ^ k ∧ 2 * k ≤ xs.length) ∨ (b < a ∧ a < 2 ^ (k + 1) ∧ 2 * k + 1 ≤ xs.length)) ∧
      σ = [Sl.val (D.int ↑n), Sl.val (D.int ↑d), Sl.val (D.int a), Sl.val (D.int b), x4, x5]) _ _ _ _ ⟨rfl, n, d, .no, .no, rfl, ⟨k, .inl ⟨hk1, ?_⟩⟩, rfl⟩ ?_ ?_
  · simp [rngO]
    omega
  · rintro x r _ _ ⟨rfl, a, b, x4, x5, h1, ⟨k, h2⟩, rfl⟩
    walk_at "wp"
    simp only [List.length_cons] at h2
    split
    · rename_i h3
      obtain rfl : b = 0 := by omega
      exact fin _ a h1
    · rename_i h3
      rw [show ((a : Int).fmod b) = ((a % b : Nat) : Int) from by rw [Int.fmod_eq_emod_of_nonneg _ (by omega)]; simp]
      refine ⟨h3, b, a % b, _, _, ?_, ?_, rfl⟩
      · rw [← h1, Nat.gcd_comm a b, Nat.gcd_rec b a, Nat.gcd_comm]
      · rcases h2 with ⟨h4, h5⟩ | ⟨h4, h5, h6⟩
        · have h7 : k ≠ 0 := fun e => by subst e; omega
          obtain ⟨j, rfl⟩ := Nat.exists_eq_succ_of_ne_zero h7
          exact ⟨j, .inr ⟨Nat.mod_lt _ (by omega), h4, by omega⟩⟩
        · refine ⟨k, .inl ⟨?_, by omega⟩⟩
          have := euc_half (by omega : 0 < b) h4
          rw [Nat.pow_succ] at h5
          omega
  · rintro _ _ ⟨rfl, a, b, x4, x5, h1, ⟨k, h2⟩, rfl⟩
    have : b = 0 := by
      rcases h2 with ⟨h4, h5⟩ | ⟨h4, h5, h6⟩
      · obtain rfl : k = 0 := by simp at h5; omega
        simpa using h4
      · simp at h6
    subst this
    walk_at "wp"
    exact fin _ a h1
mutual
def smOk : Nat → D → Bool
  | _, .non => true
  | _, .bl _ => true
  | _, .int _ => true
  | _, .str _ => true
  | n, .tup ds => match n with | 0 => false | n + 1 => decide (ds.length ≤ sizeLine) && smOks n ds
  | n, .lst ds => match n with | 0 => false | n + 1 => decide (ds.length ≤ sizeLine) && smOks n ds
  | _, _ => false
def smOks : Nat → List D → Bool
  | _, [] => true
  | n, d :: ds => smOk n d && smOks n ds
end
theorem smOks_mem {n : Nat} : ∀ {ds : List D} {d : D}, smOks n ds = true → d ∈ ds → smOk n d = true
  | d :: ds, x, h, m => by
    rw [smOks, Bool.and_eq_true] at h
    rcases List.mem_cons.1 m with rfl | m
    · exact h.1
    · exact smOks_mem h.2 m
theorem eqOks_bl {n : Nat} : ∀ {ds : List D}, (∀ d ∈ ds, d = .bl true) → eqOks n ds = true ∧ (ds.any fun z => eqD z (.bl false)) = false
  | [], _ => by simp [eqOks]
  | d :: ds, h => by
    obtain rfl := h d (by simp)
    have := @eqOks_bl n ds fun d hd => h d (by simp [hd])
    simp [eqOks, eqOk, eqD, this]
theorem same_eq : ∀ (n : Nat) (d : D) (S : Sh), smOk n d = true → m_law_same (n + 1) [d, d] S = some (.bl true, S)
  | n, d, S, h => by
    have lp : ∀ ds, (d = .tup ds ∨ d = .lst ds) → (-2 ^ 62 ≤ (ds.length : Int) ∧ (ds.length : Int) < 2 ^ 62) ∧ wp (loopC (Tg.n 2) dtYes (dFn 2 (m_law_same n) (dCons (d2 idxD (dV 0) (dV 2)) (dCons (d2 idxD (dV 1) (dV 2)) dNil)))
        (wipeD [some d, some d, none] [2]) (rngO 0 (↑ds.length : Int).toNat) [] S)
      (fun p =>
      (eqOk 60 (D.bl false) = true ∧ eqOks 60 p.fst = true) ∧
        (D.bl !p.fst.any fun z => eqD z (D.bl false), p.snd) = (D.bl true, S)) := by
      intro ds hd
      cases n with
      | zero => rcases hd with rfl | rfl <;> cases h
      | succ n =>
        have h' : ds.length ≤ sizeLine ∧ smOks n ds = true := by
          rcases hd with rfl | rfl <;> · rw [smOk, Bool.and_eq_true, decide_eq_true_eq] at h; exact h
        refine ⟨by have := h'.1; unfold sizeLine at this; omega, wp_ok (comp_map (fun _ => .bl true) _ _ ?_ ?_) ?_⟩
        · intro x hx
          simp only [rngO, List.mem_map, List.mem_range] at hx
          obtain ⟨i, hi, rfl⟩ := hx
          refine ⟨_, rfl, rfl, ?_⟩
          apply wp_eq
          show wp ((dFn 2 (m_law_same (n + 1)) (dCons (d2 idxD (dV 0) (dV 2)) (dCons (d2 idxD (dV 1) (dV 2)) dNil))) [some d, some d, some (.int (0 + i))] S) _
          have hi' : i < ds.length := by simpa using hi
          have e : idxD d (.int (0 + i)) = some ds[i] := by
            rw [Int.zero_add]
            rcases hd with rfl | rfl <;> · show atI ds _ = _; rw [DL.atI_nat, List.getElem?_eq_getElem hi']
          walk_at "wp"
          rw [e]
          walk_at "wp"
          exact wp_ok (same_eq n _ S (smOks_mem h'.2 (List.getElem_mem hi'))) rfl
        · simp [rngO]
          exact h'.1
        · simp only [List.nil_append]
          have := @eqOks_bl 60 ((rngO 0 (↑ds.length : Int).toNat).map fun _ => .bl true) (by simp)
          rw [this.1, this.2]
          simp [eqOk]
    unfold m_law_same b_law_same
    apply wp_eq
    cases d with
    | non =>
      walk_at "wp"
      simp [o_eq, eqOk, eqD]
    | int i =>
      walk_at "wp"
    | bl i =>
      walk_at "wp"
    | str i =>
      walk_at "wp"
    | tup ds =>
      walk_at "wp"
      exact lp ds (.inl rfl)
    | lst ds =>
      walk_at "wp"
      exact lp ds (.inr rfl)
    | _ => cases h
/-- a share the law draws -/
def shR (n d : Nat) : D := .tup [.int n, .int d]
theorem shD_low {n d : Nat} (hd : 0 < d) : ∃ a b, shD n d = shR a b ∧ 0 < b ∧ Nat.gcd a b = 1 ∧ a ≤ n ∧ b ≤ d := by
  have e1 := Nat.gcd_pos_of_pos_right n hd
  exact ⟨_, _, rfl, Nat.div_pos (Nat.le_of_dvd hd (Nat.gcd_dvd_right n d)) e1, Nat.gcd_div_gcd_div_gcd_of_pos_right hd, Nat.div_le_self _ _, Nat.div_le_self _ _⟩
theorem shR_low {n d : Nat} (h : Nat.gcd n d = 1) : shD n d = shR n d := by
  unfold shD shR
  rw [h]
  simp
theorem any_share_wp {l ns : List Int} {Q : D × Sh → Prop} (hl : ns.length ≤ 1000000) (h : ∀ (n d : Nat) (l' : List Int), n < 10 ^ 59 → 0 < d → d ≤ 10 ^ 59 → Nat.gcd n d = 1 → Q (shR n d, [l'.map .int])) :
    wp (m_law_any_share [.ref 0, .rol (ns.map .int)] [l.map .int]) Q := by
  obtain ⟨cs, hc, hs⟩ := @short_ok ns [l.map .int] hl
  unfold m_law_any_share b_law_any_share
  walk_at "wp"
  refine wp_ok hs ?_
  walk_at "wp"
  refine size_wp hc fun n l1 h1 h2 => ?_
  walk_at "wp"
  refine size_wp hc fun d l2 h3 h4 => ?_
  walk_at "wp"
  refine take_wp (by decide) fun v l3 h5 h6 => ?_
  walk_at "wp"
  obtain ⟨n, rfl⟩ := Int.eq_ofNat_of_zero_le h1
  obtain ⟨d, rfl⟩ := Int.eq_ofNat_of_zero_le h3
  split
  · exact ⟨by decide, h n 1 l3 (by omega) (by decide) (by decide) (Nat.gcd_one_right n)⟩
  · split
    · refine ⟨by decide, by decide, by decide, ?_⟩
      refine take_wp (by decide) fun v l4 h7 h8 => ?_
      walk_at "wp"
      obtain rfl | rfl : v = 0 ∨ v = 1 := by omega
      · exact wp_ok rfl (h 0 1 l4 (by decide) (by decide) (by decide) rfl)
      · exact wp_ok rfl (h 1 1 l4 (by decide) (by decide) (by decide) rfl)
    · have e : (1 : Int) + d = ((1 + d : Nat) : Int) := by simp
      rw [e]
      have hb : 1 + d < 2 ^ 8000 := Nat.lt_of_lt_of_le (show 1 + d < 2 ^ 200 by omega) (Nat.pow_le_pow_right (by decide) (by decide))
      refine wp_ok (share_eq (by omega) hb) ?_
      obtain ⟨a, b, e1, e2, e3, e4, e5⟩ := @shD_low n (1 + d) (by omega)
      rw [e1]
      exact h a b l3 (by omega) e2 (by omega) e3
theorem cells_of {ns : List Int} (h : ∀ n ∈ ns, Builtin.Int.intBits n ≤ 1048576) : ∀ c ∈ ns, c.natAbs.log2 ≤ 1048576 := fun c hc => by
  have := h c hc
  unfold Builtin.Int.intBits at this
  split at this <;> rename_i e
  · have : c = 0 := by simpa using e
    subst this
    decide
  · omega
theorem make_share_eq {n d : Nat} {S : Sh} (hd : 0 < d) (hb : d < 2 ^ 8000) (hn : n < 2 ^ 8000) : m_make_share [.int n, .int d] S = some (shD n d, S) := by
  apply wp_eq
  unfold m_make_share b_make_share
  walk_at "wp"
  have l1 := @lg_lt (d : Int) 8000 (by decide) (by omega)
  have l2 := @lg_lt (n : Int) 8000 (by decide) (by omega)
  have e1 := Nat.gcd_pos_of_pos_right n hd
  have e2 := Nat.le_of_dvd hd (Nat.gcd_dvd_right n d)
  have e3 : (Nat.gcd n d).log2 < 8000 := @lg_lt (Nat.gcd n d : Int) 8000 (by decide) (by omega)
  have e4 : (0 : Int) ≤ n * d := by exact_mod_cast Nat.zero_le _
  rw [if_neg (by omega)]
  refine ⟨mulOk_of (by omega), ?_⟩
  rw [if_neg (by omega), if_neg (by omega), if_neg (by omega)]
  simp only [Int.natAbs_natCast]
  refine ⟨⟨by omega, by omega⟩, ⟨by omega, by omega⟩, by decide, ?_⟩
  unfold shD
  rw [Int.fdiv_eq_ediv_of_nonneg _ (by omega), Int.fdiv_eq_ediv_of_nonneg _ (by omega)]
  simp
theorem shR_0 {a b : Nat} {Q : D → Prop} : wp (idxD (shR a b) (.int 0)) Q = Q (.int a) := wp_some
theorem shR_1 {a b : Nat} {Q : D → Prop} : wp (idxD (shR a b) (.int 1)) Q = Q (.int b) := wp_some
theorem shT {a b : Nat} : D.tup [.int a, .int b] = shR a b := rfl
theorem pw_lt {n : Nat} (h : n < 10 ^ 130) : n < 2 ^ 8000 := Nat.lt_of_lt_of_le (Nat.lt_trans h (by decide : 10 ^ 130 < 2 ^ 600)) (Nat.pow_le_pow_right (by decide) (by decide))
theorem lg60 {n : Nat} (h : n < 10 ^ 60) : ((n : Int).natAbs).log2 < 200 := lg_lt (by decide) (by rw [Int.natAbs_natCast]; exact Nat.lt_trans h (by decide))
theorem mul60 {a b : Nat} (ha : a < 10 ^ 60) (hb : b < 10 ^ 60) : a * b < 10 ^ 120 := by
  have := Nat.mul_lt_mul'' ha hb
  rwa [← Nat.pow_add] at this
theorem sameD {a b : Nat} {S : Sh} : m_law_same 12 [shD a b, shD a b] S = some (.bl true, S) := same_eq 11 _ S rfl
theorem sameR {a b : Nat} {S : Sh} : m_law_same 12 [shR a b, shR a b] S = some (.bl true, S) := same_eq 11 _ S rfl
def isSh (a b : Int) : Bool := decide (0 ≤ a) && (decide (1 ≤ b) && decide (Nat.gcd a.natAbs b.natAbs = 1))
theorem is_share_eq {a b : Int} {S : Sh} : m_is_share [.tup [.int a, .int b]] S = some (.bl (isSh a b), S) := by
  apply wp_eq
  unfold m_is_share b_is_share
  walk_at "wp"
  unfold isSh
  by_cases h1 : 0 ≤ a <;> by_cases h2 : 1 ≤ b <;> simp [h1, h2]
  · omega
/-! fractions -/
theorem shD_red (a : Nat) {b : Nat} (hb : 0 < b) : ∃ g x y, shD a b = shR x y ∧ a = g * x ∧ b = g * y ∧ 0 < g ∧ 0 < y ∧ Nat.gcd x y = 1 := by
  have e1 := Nat.gcd_pos_of_pos_right a hb
  exact ⟨Nat.gcd a b, _, _, rfl, (Nat.mul_div_cancel' (Nat.gcd_dvd_left a b)).symm, (Nat.mul_div_cancel' (Nat.gcd_dvd_right a b)).symm, e1, Nat.div_pos (Nat.le_of_dvd hb (Nat.gcd_dvd_right a b)) e1, Nat.gcd_div_gcd_div_gcd_of_pos_right hb⟩
theorem cop_eq {a b c d : Nat} (h1 : Nat.gcd a b = 1) (h2 : Nat.gcd c d = 1) (h : a * d = c * b) : a = c ∧ b = d := by
  have p : a ∣ c := Nat.Coprime.dvd_of_dvd_mul_right h1 ⟨d, h.symm⟩
  have q : c ∣ a := Nat.Coprime.dvd_of_dvd_mul_right h2 ⟨b, h⟩
  have r : b ∣ d := Nat.Coprime.dvd_of_dvd_mul_left (show Nat.Coprime b a by rw [Nat.Coprime, Nat.gcd_comm]; exact h1) ⟨c, by rw [h, Nat.mul_comm]⟩
  have s : d ∣ b := Nat.Coprime.dvd_of_dvd_mul_left (show Nat.Coprime d c by rw [Nat.Coprime, Nat.gcd_comm]; exact h2) ⟨a, by rw [← h, Nat.mul_comm]⟩
  exact ⟨Nat.dvd_antisymm p q, Nat.dvd_antisymm r s⟩
theorem shD_eq {a b c d : Nat} (hb : 0 < b) (hd : 0 < d) (h : a * d = c * b) : shD a b = shD c d := by
  obtain ⟨g, x, y, e1, rfl, rfl, g1, g2, g3⟩ := shD_red a hb
  obtain ⟨k, u, v, e2, rfl, rfl, k1, k2, k3⟩ := shD_red c hd
  rw [e1, e2]
  have : x * v = u * y := by
    have h' : (g * k) * (x * v) = (g * k) * (u * y) := by grind
    exact Nat.eq_of_mul_eq_mul_left (Nat.mul_pos g1 k1) h'
  obtain ⟨rfl, rfl⟩ := cop_eq g3 k3 this
  rfl
def Fr (k n d : Nat) : Prop := 0 < d ∧ n < 2 ^ k ∧ d < 2 ^ k
theorem Fr.plus {k l a b c d : Nat} (h : Fr k a b) (h' : Fr l c d) : Fr (k + l + 1) (a * d + c * b) (b * d) := by
  have e1 := Nat.mul_lt_mul'' h.2.1 h'.2.2
  have e2 := Nat.mul_lt_mul'' h'.2.1 h.2.2
  have e3 := Nat.mul_lt_mul'' h.2.2 h'.2.2
  rw [Nat.mul_comm (2 ^ l)] at e2
  rw [← Nat.pow_add] at e1 e2 e3
  refine ⟨Nat.mul_pos h.1 h'.1, ?_, ?_⟩ <;> rw [Nat.pow_succ] <;> omega
theorem Fr.times {k l a b c d : Nat} (h : Fr k a b) (h' : Fr l c d) : Fr (k + l) (a * c) (b * d) := by
  have e1 := Nat.mul_lt_mul'' h.2.1 h'.2.1
  have e3 := Nat.mul_lt_mul'' h.2.2 h'.2.2
  rw [← Nat.pow_add] at e1 e3
  exact ⟨Nat.mul_pos h.1 h'.1, e1, e3⟩
theorem Fr.mono {k l a b : Nat} (h : Fr k a b) (hl : k ≤ l) : Fr l a b := by
  have := Nat.pow_le_pow_right (show 0 < 2 by decide) hl
  exact ⟨h.1, Nat.lt_of_lt_of_le h.2.1 this, Nat.lt_of_lt_of_le h.2.2 this⟩
theorem Fr.down {k a b a' b' : Nat} (h : Fr k a b) (h0 : 0 < b') (ha : a' ≤ a) (hb : b' ≤ b) : Fr k a' b' := ⟨h0, Nat.lt_of_le_of_lt ha h.2.1, Nat.lt_of_le_of_lt hb h.2.2⟩
theorem Fr.down' {k a b a' : Nat} (h : Fr k a b) (ha : a' ≤ b) : Fr k a' b := ⟨h.1, Nat.lt_of_le_of_lt ha h.2.2, h.2.2⟩
theorem Fr.of60 {a b : Nat} (h0 : 0 < b) (ha : a < 10 ^ 60) (hb : b < 10 ^ 60) : Fr 200 a b := ⟨h0, Nat.lt_trans ha (by decide), Nat.lt_trans hb (by decide)⟩
/-- in lowest terms, with its bounds -/
theorem Fr.red {k a b : Nat} (h : Fr k a b) : ∃ g x y, shD a b = shR x y ∧ a = g * x ∧ b = g * y ∧ 0 < g ∧ Nat.gcd x y = 1 ∧ Fr k x y := by
  obtain ⟨g, x, y, e1, rfl, rfl, g1, g2, g3⟩ := shD_red a h.1
  exact ⟨g, x, y, e1, rfl, rfl, g1, g3, h.down g2 (Nat.le_mul_of_pos_left _ g1) (Nat.le_mul_of_pos_left _ g1)⟩
theorem lgk {k a : Nat} (hk : 0 < k) (h : a < 2 ^ k) : ((a : Int).natAbs).log2 < k := lg_lt hk (by rw [Int.natAbs_natCast]; exact h)
theorem mulF {a b k l : Nat} (ha : a < 2 ^ k) (hb : b < 2 ^ l) (hk : k + l ≤ 67108000) : mulOk (a : Int) b = true := by
  have h1 := @lgk (k + 1) a (by omega) (by rw [Nat.pow_succ]; omega)
  have h2 := @lgk (l + 1) b (by omega) (by rw [Nat.pow_succ]; omega)
  exact mulOk_of (by omega)
theorem p8000 {k n : Nat} (h : n < 2 ^ k) (hk : k ≤ 8000) : n < 2 ^ 8000 := Nat.lt_of_lt_of_le h (Nat.pow_le_pow_right (by decide) hk)
theorem plusD {a b c d k l : Nat} {S : Sh} (h : Fr k a b) (h' : Fr l c d) (hk : k + l + 1 ≤ 8000) : m_plus [shD a b, shD c d] S = some (shD (a * d + c * b) (b * d), S) := by
  obtain ⟨g, x, y, e1, rfl, rfl, g1, g2, f1⟩ := h.red
  obtain ⟨m, u, v, e2, rfl, rfl, m1, m2, f2⟩ := h'.red
  rw [e1, e2]
  apply wp_eq
  unfold m_plus b_plus
  walk_at "wp"
  simp only [shR_0, shR_1]
  walk_at "wp"
  refine ⟨mulF f1.2.1 f2.2.2 (by omega), mulF f2.2.1 f1.2.2 (by omega), mulF f1.2.2 f2.2.2 (by omega), ?_⟩
  rw [show (x : Int) * v + u * y = ((x * v + u * y : Nat) : Int) by simp, show (y : Int) * v = ((y * v : Nat) : Int) by simp]
  have f3 := f1.plus f2
  refine wp_ok (make_share_eq f3.1 (p8000 f3.2.2 hk) (p8000 f3.2.1 hk)) ?_
  rw [shD_eq f3.1 (h.plus h').1 (show (x * v + u * y) * (g * y * (m * v)) = (g * x * (m * v) + m * u * (g * y)) * (y * v) by grind)]
theorem timesD {a b c d k l : Nat} {S : Sh} (h : Fr k a b) (h' : Fr l c d) (hk : k + l ≤ 8000) : m_times [shD a b, shD c d] S = some (shD (a * c) (b * d), S) := by
  obtain ⟨g, x, y, e1, rfl, rfl, g1, g2, f1⟩ := h.red
  obtain ⟨m, u, v, e2, rfl, rfl, m1, m2, f2⟩ := h'.red
  rw [e1, e2]
  apply wp_eq
  unfold m_times b_times
  walk_at "wp"
  simp only [shR_0, shR_1]
  walk_at "wp"
  refine ⟨mulF f1.2.1 f2.2.1 (by omega), mulF f1.2.2 f2.2.2 (by omega), ?_⟩
  rw [show (x : Int) * u = ((x * u : Nat) : Int) by simp, show (y : Int) * v = ((y * v : Nat) : Int) by simp]
  have f3 := f1.times f2
  refine wp_ok (make_share_eq f3.1 (p8000 f3.2.2 hk) (p8000 f3.2.1 hk)) ?_
  rw [shD_eq f3.1 (h.times h').1 (show (x * u) * (g * y * (m * v)) = (g * x * (m * u)) * (y * v) by grind)]
def cmpN (x y : Nat) : Int := if x = y then 0 else if x < y then -1 else 1
theorem cmpN_lin {x y m z : Nat} (hm : 0 < m) : cmpN (m * x + z) (m * y + z) = cmpN x y := by
  unfold cmpN
  have e1 : (m * x + z = m * y + z) ↔ x = y := by
    rw [Nat.add_right_cancel_iff]
    exact Nat.mul_right_inj (Nat.ne_of_gt hm)
  have e2 : (m * x + z < m * y + z) ↔ x < y := by
    rw [Nat.add_lt_add_iff_right]
    exact Nat.mul_lt_mul_left hm
  simp only [e1, e2]
theorem cmpN_mul {x y m : Nat} (hm : 0 < m) : cmpN (m * x) (m * y) = cmpN x y := @cmpN_lin x y m 0 hm
theorem cmpN_swap {x y : Nat} : cmpN y x = 0 - cmpN x y := by
  unfold cmpN
  split <;> split <;> (try split) <;> (try split) <;> omega
theorem cmpN_nn {x y : Nat} (h : y ≤ x) : 0 ≤ cmpN x y := by
  unfold cmpN
  split
  · omega
  · rw [if_neg (by omega)]; omega
theorem cmpN_np {x y : Nat} (h : x ≤ y) : cmpN x y ≤ 0 := by
  unfold cmpN
  split
  · omega
  · rw [if_pos (by omega)]; omega
theorem cmpD {a b c d k l : Nat} {S : Sh} (h : Fr k a b) (h' : Fr l c d) (hk : k + l ≤ 8000) : m_compare_shares [shD a b, shD c d] S = some (.int (cmpN (a * d) (c * b)), S) := by
  obtain ⟨g, x, y, e1, rfl, rfl, g1, g2, f1⟩ := h.red
  obtain ⟨m, u, v, e2, rfl, rfl, m1, m2, f2⟩ := h'.red
  rw [e1, e2]
  have e : cmpN (g * x * (m * v)) (m * u * (g * y)) = cmpN (x * v) (u * y) := by
    rw [show g * x * (m * v) = (g * m) * (x * v) by grind, show m * u * (g * y) = (g * m) * (u * y) by grind]
    exact cmpN_mul (Nat.mul_pos g1 m1)
  rw [e]
  apply wp_eq
  unfold m_compare_shares b_compare_shares
  walk_at "wp"
  simp only [shR_0, shR_1]
  walk_at "wp"
  refine ⟨mulF f1.2.1 f2.2.2 (by omega), mulF f2.2.1 f1.2.2 (by omega), ?_⟩
  unfold cmpN
  by_cases h1 : x * v = u * y
  · have h2 : (x : Int) * v = u * y := by exact_mod_cast h1
    rw [if_pos h1, if_pos h2]
  · have h2 : ¬ (x : Int) * v = u * y := by exact_mod_cast h1
    rw [if_neg h1, if_neg h2]
    by_cases h3 : x * v < u * y
    · have h4 : (x : Int) * v < u * y := by exact_mod_cast h3
      rw [if_pos h3, if_pos h4]
    · have h4 : ¬ (x : Int) * v < u * y := by exact_mod_cast h3
      rw [if_neg h3, if_neg h4]
theorem restD {a b k : Nat} {S : Sh} (h : Fr k a b) (hab : a ≤ b) : m_rest_of [shD a b] S = some (shD (b - a) b, S) := by
  obtain ⟨g, x, y, e1, rfl, rfl, g1, g2, f1⟩ := h.red
  rw [e1]
  have hxy : x ≤ y := Nat.le_of_mul_le_mul_left hab g1
  have e : shD (g * y - g * x) (g * y) = shR (y - x) y := by
    rw [← Nat.mul_sub, shD_eq h.1 f1.1 (show g * (y - x) * y = (y - x) * (g * y) by grind)]
    refine shR_low ?_
    rw [Nat.gcd_comm, Nat.gcd_self_sub_right hxy, Nat.gcd_comm]
    exact g2
  rw [e]
  apply wp_eq
  unfold m_rest_of b_rest_of
  walk_at "wp"
  simp only [shR_0, shR_1]
  walk_at "wp"
  refine ⟨by decide, ?_⟩
  rw [show (y : Int) - x = ((y - x : Nat) : Int) by omega]
  rfl
theorem one_shD {b : Nat} (hb : 0 < b) : shD b b = shR 1 1 := by
  unfold shD shR
  rw [Nat.gcd_self, Nat.div_self hb]
theorem same_shD {n d : Nat} {S : Sh} : m_law_same 12 [shD n d, shD n d] S = some (.bl true, S) := same_eq 11 _ S rfl
theorem ex_pow (k : Nat) : 1 < 2 ^ (k + 1) := by rw [Nat.pow_succ]; have := Nat.pow_pos (n := k) (show 0 < 2 by decide); omega
theorem fr11 : Fr 1 1 1 := ⟨by decide, by decide, by decide⟩
theorem one1 : shR 1 1 = shD 1 1 := (one_shD (by decide)).symm
theorem o_ltN {i : Int} {Q : D → Prop} (h : 0 ≤ i) : wp (ltO (.int i) (.int 0)) Q = Q (.bl false) := by
  rw [DL.o_lt, decide_eq_false (by omega)]
theorem kept_eq {a b c d e f : Nat} {S : Sh} (h1 : Fr 200 a b) (h2 : Fr 200 c d) (h3 : Fr 200 e f) : m_law_kept_orders [shD a b, shD c d, shD e f] S = some (.bl true, S) := by
  apply wp_eq
  unfold m_law_kept_orders b_law_kept_orders
  walk_at "w1"
  rw [w_seq]
  walk_at "w1"
  refine wp_ok (cmpD h1 h2 (by decide)) ?_
  walk_at "w1"
  rw [w_seq]
  walk_at "w1"
  refine wp_ok (cmpD h2 h1 (by decide)) ?_
  walk_at "w1"
  rw [if_neg (by rw [cmpN_swap]; simp)]
  refine wp_ok (plusD h1 h3 (by decide)) (wp_ok (plusD h2 h3 (by decide)) (wp_ok (cmpD (h1.plus h3) (h2.plus h3) (by decide)) ?_))
  rw [show (a * f + e * b) * (d * f) = (f * f) * (a * d) + e * f * b * d by grind, show (c * f + e * d) * (b * f) = (f * f) * (c * b) + e * f * b * d by grind, cmpN_lin (Nat.mul_pos h3.1 h3.1)]
  walk_at "w1"
  rw [w_seq]
  walk_at "w1"
  refine wp_ok (plusD h1 h2 (by decide)) (wp_ok (cmpD (h1.plus h2) h1 (by decide)) ?_)
  rw [o_ltN (cmpN_nn (show a * (b * d) ≤ (a * d + c * b) * b by rw [Nat.add_mul, show a * d * b = a * (b * d) by grind]; omega))]
  walk_at "w1"
  refine wp_ok (plusD h1 h2 (by decide)) (wp_ok (cmpD (h1.plus h2) h2 (by decide)) ?_)
  rw [o_ltN (cmpN_nn (show c * (b * d) ≤ (a * d + c * b) * d by rw [Nat.add_mul, show c * b * d = c * (b * d) by grind]; omega))]
  walk_at "w1"
  refine wp_ok (timesD h1 h3 (by decide)) (wp_ok (timesD h2 h3 (by decide)) (wp_ok (cmpD (h1.times h3) (h2.times h3) (by decide)) ?_))
  walk_at "w1"
  refine ⟨by decide, ?_⟩
  rw [DL.o_ne]
  refine ⟨⟨rfl, rfl⟩, ?_⟩
  by_cases he : e = 0
  · subst he
    have e1 : shD 0 f = shR 0 1 := by unfold shD shR; rw [Nat.gcd_zero_left, Nat.div_self h3.1, Nat.zero_div]
    have e2 : eqD (shR 0 1) (D.tup [D.int 0, D.int 1]) = true := by simp [shR, eqD, eqDs]
    rw [e1, e2]
    walk_at "w1"
    refine ⟨mulOk_of ?_, ?_⟩
    · have : ((0 : Int).natAbs).log2 = 0 := by decide
      have := @lg_lt (cmpN (a * d) (c * b)) 3 (by decide) (by unfold cmpN; split <;> (try split) <;> decide)
      omega
    · simp [cmpN]
  · have e2 : eqD (shD e f) (D.tup [D.int 0, D.int 1]) = false := by
      obtain ⟨g, x, y, e1, rfl, rfl, g1, g2, f1⟩ := h3.red
      rw [e1]
      have : ¬ x = 0 := by
        intro h
        subst h
        exact he (Nat.mul_zero g)
      simp [shR, eqD, eqDs, this]
    rw [e2]
    walk_at "w1"
    refine ⟨mulOk_of ?_, ?_⟩
    · have : ((1 : Int).natAbs).log2 = 0 := by decide
      have := @lg_lt (cmpN (a * d) (c * b)) 3 (by decide) (by unfold cmpN; split <;> (try split) <;> decide)
      omega
    · rw [show a * e * (d * f) = (e * f) * (a * d) by grind, show c * e * (b * f) = (e * f) * (c * b) by grind, cmpN_mul (Nat.mul_pos (Nat.pos_of_ne_zero he) h3.1)]
      simp
theorem any2_eq {a b c d k l : Nat} {S : Sh} (h1 : Fr k a b) (h2 : Fr l c d) (h3 : a ≤ b) (h4 : c ≤ d) (hk : k + l + 10 ≤ 8000) : m_any_of [.lst [shD a b, shD c d]] S = some (shD (b * d - (b - a) * (d - c)) (b * d), S) := by
  have r1 : Fr k (b - a) b := h1.down' (Nat.sub_le _ _)
  have r2 : Fr l (d - c) d := h2.down' (Nat.sub_le _ _)
  apply wp_eq
  unfold m_any_of b_any_of
  walk_at "wl"
  refine wp_ok (restD h1 h3) ?_
  walk_at "wl"
  refine ⟨by decide, wp_ok (restD h2 h4) ?_⟩
  walk_at "wl"
  refine ⟨by decide, ?_⟩
  unfold m_product_of b_product_of
  walk_at "wl"
  refine ⟨by decide, ?_⟩
  refine wp_ok (a := (shD (1 * (b - a)) (1 * b), S)) (timesD fr11 r1 (by omega)) ?_
  rw [Nat.one_mul, Nat.one_mul]
  walk_at "wl"
  refine wp_ok (timesD r1 r2 (by omega)) ?_
  walk_at "wl"
  refine wp_ok (restD (r1.times r2) ?_) rfl
  exact Nat.mul_le_mul (Nat.sub_le _ _) (Nat.sub_le _ _)
theorem any3_eq {a b c d e f k l m : Nat} {S : Sh} (h1 : Fr k a b) (h2 : Fr l c d) (h3 : Fr m e f) (q1 : a ≤ b) (q2 : c ≤ d) (q3 : e ≤ f) (hk : k + l + m + 10 ≤ 8000) :
    m_any_of [.lst [shD a b, shD c d, shD e f]] S = some (shD (b * d * f - (b - a) * (d - c) * (f - e)) (b * d * f), S) := by
  have r1 : Fr k (b - a) b := h1.down' (Nat.sub_le _ _)
  have r2 : Fr l (d - c) d := h2.down' (Nat.sub_le _ _)
  have r3 : Fr m (f - e) f := h3.down' (Nat.sub_le _ _)
  apply wp_eq
  unfold m_any_of b_any_of
  walk_at "wl"
  refine wp_ok (restD h1 q1) ?_
  walk_at "wl"
  refine ⟨by decide, wp_ok (restD h2 q2) ?_⟩
  walk_at "wl"
  refine ⟨by decide, wp_ok (restD h3 q3) ?_⟩
  walk_at "wl"
  refine ⟨by decide, ?_⟩
  unfold m_product_of b_product_of
  walk_at "wl"
  refine ⟨by decide, ?_⟩
  refine wp_ok (a := (shD (1 * (b - a)) (1 * b), S)) (timesD fr11 r1 (by omega)) ?_
  rw [Nat.one_mul, Nat.one_mul]
  walk_at "wl"
  refine wp_ok (timesD r1 r2 (by omega)) ?_
  walk_at "wl"
  refine wp_ok (timesD (r1.times r2) r3 (by omega)) ?_
  walk_at "wl"
  refine wp_ok (restD ((r1.times r2).times r3) ?_) rfl
  exact Nat.mul_le_mul (Nat.mul_le_mul (Nat.sub_le _ _) (Nat.sub_le _ _)) (Nat.sub_le _ _)
theorem o_gtN {i : Int} {Q : D → Prop} (h : i ≤ 0) : wp (gtO (.int i) (.int 0)) Q = Q (.bl false) := by
  rw [DL.o_gt, decide_eq_false (by omega)]
theorem any_fr {a b c d k l : Nat} (h1 : Fr k a b) (h2 : Fr l c d) : Fr (k + l) (b * d - (b - a) * (d - c)) (b * d) := by
  have := h1.times h2
  have e3 := Nat.mul_lt_mul'' h1.2.2 h2.2.2
  rw [← Nat.pow_add] at e3
  exact ⟨this.1, Nat.lt_of_le_of_lt (Nat.sub_le _ _) e3, e3⟩
theorem sub_id {a b c d : Nat} (h3 : a ≤ b) (h4 : c ≤ d) : b * d - (b - a) * (d - c) + a * c = a * d + c * b := by
  obtain ⟨p, rfl⟩ := Nat.exists_eq_add_of_le h3
  obtain ⟨q, rfl⟩ := Nat.exists_eq_add_of_le h4
  rw [Nat.add_sub_cancel_left, Nat.add_sub_cancel_left]
  have : (a + p) * (c + q) = (a * c + a * q + p * c) + p * q := by grind
  rw [this, Nat.add_sub_cancel]
  grind
theorem misses_eq {a b c d e f : Nat} {S : Sh} (h1 : Fr 200 a b) (h2 : Fr 200 c d) (h3 : Fr 200 e f) (q1 : a ≤ b) (q2 : c ≤ d) (q3 : e ≤ f) : m_law_misses [shD a b, shD c d, shD e f] S = some (.bl true, S) := by
  have r1 : Fr 200 (b - a) b := h1.down' (Nat.sub_le _ _)
  have hb := any_fr h1 h2
  have id1 := sub_id q1 q2
  apply wp_eq
  unfold m_law_misses b_law_misses
  walk_at "w1"
  rw [w_seq]
  walk_at "w1"
  refine wp_ok (restD h1 q1) (wp_ok (plusD h1 r1 (by decide)) ?_)
  rw [shD_eq (c := 1) (d := 1) (h1.plus r1).1 (by decide) (by rw [← Nat.add_mul, Nat.add_sub_cancel' q1]; simp)]
  walk_at "w1"
  refine ⟨by decide, wp_ok (sameR (a := 1) (b := 1)) ?_⟩
  walk_at "w1"
  rw [w_seq]
  walk_at "w1"
  refine ⟨by decide, wp_ok (any2_eq h1 h2 q1 q2 (by decide)) ?_⟩
  walk_at "w1"
  rw [w_seq]
  walk_at "w1"
  refine wp_ok (timesD h1 h2 (by decide)) (wp_ok (plusD hb (h1.times h2) (by decide)) (wp_ok (plusD h1 h2 (by decide)) ?_))
  rw [← Nat.add_mul, id1, shD_eq (c := a * d + c * b) (d := b * d) (Nat.mul_pos hb.1 hb.1) hb.1 (by grind)]
  refine wp_ok same_shD ?_
  walk_at "w1"
  rw [w_seq]
  walk_at "w1"
  have m1 : a * c ≤ c * b := by rw [Nat.mul_comm a c]; exact Nat.mul_le_mul_left c q1
  have m2 : a * c ≤ a * d := Nat.mul_le_mul_left a q2
  have k1 : a * d ≤ b * d - (b - a) * (d - c) := by omega
  have k2 : c * b ≤ b * d - (b - a) * (d - c) := by omega
  refine wp_ok (cmpD hb h1 (by decide)) ?_
  rw [o_ltN (cmpN_nn (show a * (b * d) ≤ (b * d - (b - a) * (d - c)) * b by have := Nat.mul_le_mul_right b k1; rw [show a * (b * d) = a * d * b by grind]; exact this))]
  walk_at "w1"
  refine wp_ok (cmpD hb h2 (by decide)) ?_
  rw [o_ltN (cmpN_nn (show c * (b * d) ≤ (b * d - (b - a) * (d - c)) * d by have := Nat.mul_le_mul_right d k2; rw [show c * (b * d) = c * b * d by grind]; exact this))]
  walk_at "w1"
  refine wp_ok (timesD h1 h2 (by decide)) (wp_ok (cmpD (h1.times h2) h1 (by decide)) ?_)
  rw [o_gtN (cmpN_np (show a * c * b ≤ a * (b * d) by have := Nat.mul_le_mul_right b m2; rw [show a * (b * d) = a * d * b by grind]; exact this))]
  walk_at "w1"
  refine ⟨by decide, wp_ok (any3_eq h1 h2 h3 q1 q2 q3 (by decide)) ?_⟩
  refine ⟨by decide, wp_ok (any2_eq h2 h3 q2 q3 (by decide)) ?_⟩
  refine ⟨by decide, wp_ok (any2_eq h1 (any_fr h2 h3) q1 (Nat.sub_le _ _) (by decide)) ?_⟩
  rw [Nat.sub_sub_self (Nat.mul_le_mul (Nat.sub_le _ _) (Nat.sub_le _ _)), ← Nat.mul_assoc, ← Nat.mul_assoc]
  exact wp_ok same_shD rfl
theorem any_chance_wp {l ns : List Int} {Q : D × Sh → Prop} (hl : ns.length ≤ 1000000) (h : ∀ (n d : Nat) (l' : List Int), Fr 200 n d → n ≤ d → Q (shD n d, [l'.map .int])) :
    wp (m_law_any_chance [.ref 0, .rol (ns.map .int)] [l.map .int]) Q := by
  obtain ⟨cs, hc, hs⟩ := @short_ok ns [l.map .int] hl
  unfold m_law_any_chance b_law_any_chance
  walk_at "wp"
  refine wp_ok hs ?_
  walk_at "wp"
  refine size_wp hc fun n l1 h1 h2 => ?_
  walk_at "wp"
  refine size_wp hc fun d l2 h3 h4 => ?_
  walk_at "wp"
  refine take_wp (by decide) fun v l3 h5 h6 => ?_
  walk_at "wp"
  obtain ⟨n, rfl⟩ := Int.eq_ofNat_of_zero_le h1
  obtain ⟨d, rfl⟩ := Int.eq_ofNat_of_zero_le h3
  have c01 : shD 0 1 = .tup [.int 0, .int 1] := rfl
  split
  · refine ⟨by decide, by decide, by decide, ?_⟩
    refine take_wp (by decide) fun v l4 h7 h8 => ?_
    walk_at "wp"
    obtain rfl | rfl : v = 0 ∨ v = 1 := by omega
    · exact wp_ok rfl (h 0 1 l4 ⟨by decide, by decide, by decide⟩ (by decide))
    · exact wp_ok rfl (h 1 1 l4 ⟨by decide, by decide, by decide⟩ (by decide))
  · split
    · exact ⟨by decide, h 0 1 l3 ⟨by decide, by decide, by decide⟩ (by decide)⟩
    · rw [show (n : Int) + d = ((n + d : Nat) : Int) by simp]
      have f : Fr 200 n (n + d) := ⟨by omega, by omega, by omega⟩
      refine wp_ok (share_eq f.1 (p8000 f.2.2 (by decide))) ?_
      exact h n (n + d) l3 f (by omega)
/-- a pair of equal shares -/
def okQ (x : D) : Prop := ∃ k n d, x = .tup [shD n d, shD n d] ∧ Fr k n d ∧ k ≤ 7000
theorem okQ_of {k n d n' d' : Nat} (h : Fr k n d) (h' : 0 < d') (hk : k ≤ 7000) (e : n' * d = n * d') : okQ (.tup [shD n d, shD n' d']) :=
  ⟨k, n, d, by rw [shD_eq h' h.1 e], h, hk⟩
theorem law_ok {ns : List Int} (hl : ns.length ≤ 1000000) (hc : ∀ c ∈ ns, c.natAbs.log2 ≤ 1048576) : ∃ S', m_law [.rol (ns.map .int)] [] = some (.bl true, S') := by
  have key : wp (m_law [.rol (ns.map .int)] []) fun p => p.1 = .bl true := by
    unfold m_law b_law
    walk_at "w1"
    rw [w_seq]
    walk_at "w1"
    refine draws_wp (m := 200) (by decide) hl hc fun l => ?_
    walk_at "w1"
    rw [w_seq]
    walk_at "w1"
    refine any_share_wp hl fun a b l1 a1 a2 a3 a4 => ?_
    walk_at "w1"
    rw [w_seq]
    walk_at "w1"
    refine any_share_wp hl fun c d l2 b1 b2 b3 b4 => ?_
    walk_at "w1"
    rw [w_seq]
    walk_at "w1"
    refine any_share_wp hl fun e f l3 c1 c2 c3 c4 => ?_
    walk_at "w1"
    have A : Fr 200 a b := ⟨a2, by omega, by omega⟩
    have E : Fr 200 e f := ⟨c2, by omega, by omega⟩
    rw [← shR_low a4, ← shR_low b4, ← shR_low c4]
    rw [w_seq]
    refine wp_mono (Q := fun o => ∃ (c d : Nat) (l' : List Int), Fr 200 c d ∧ o = Out.nx [Sl.val (D.rol (List.map D.int ns)), Sl.val (D.ref 0), Sl.val (shD a b), Sl.val (shD c d), Sl.val (shD e f), Sl.no, Sl.no] [l'.map .int]) ?_ ?_
    · walk_at "w1"
      refine take_wp (by decide) fun v l4 h1 h2 => ?_
      walk_at "w1"
      split
      · rw [shR_low a4, shR_1]
        refine take_wp (by decide) fun v l4 h7 h8 => ?_
        walk_at "w1"
        obtain ⟨n, rfl⟩ := Int.eq_ofNat_of_zero_le h7
        rw [show (1 : Int) + n = ((1 + n : Nat) : Int) by simp]
        refine wp_ok (share_eq (by omega) (pw_lt (by omega))) ?_
        exact ⟨b, 1 + n, _, ⟨by omega, by omega, by omega⟩, rfl⟩
      · exact ⟨c, d, _, ⟨b2, by omega, by omega⟩, rfl⟩
    clear b1 b2 b3 b4
    rintro _ ⟨c, d, l3, C, rfl⟩
    walk_at "w1"
    rw [w_seq]
    walk_at "w1"
    refine wp_ok (plusD A C (by decide)) (wp_ok (plusD C A (by decide)) ⟨by decide, ?_⟩)
    refine wp_ok (timesD A C (by decide)) (wp_ok (timesD C A (by decide)) ⟨by decide, by decide, ?_⟩)
    rw [w_seq]
    walk_at "w1"
    refine wp_ok (plusD A C (by decide)) (wp_ok (plusD (A.plus C) E (by decide)) (wp_ok (plusD C E (by decide)) (wp_ok (plusD A (C.plus E) (by decide)) ⟨by decide, ?_⟩)))
    rw [kOwn_eq rfl]
    walk_at "w1"
    refine ⟨by decide, ?_⟩
    rw [w_seq]
    walk_at "w1"
    refine wp_ok (timesD A C (by decide)) (wp_ok (timesD (A.times C) E (by decide)) (wp_ok (timesD C E (by decide)) (wp_ok (timesD A (C.times E) (by decide)) ⟨by decide, ?_⟩)))
    rw [kOwn_eq rfl]
    walk_at "w1"
    refine ⟨by decide, ?_⟩
    rw [w_seq]
    walk_at "w1"
    refine wp_ok (plusD C E (by decide)) (wp_ok (timesD A (C.plus E) (by decide)) (wp_ok (timesD A C (by decide)) (wp_ok (timesD A E (by decide)) (wp_ok (plusD (A.times C) (A.times E) (by decide)) ⟨by decide, ?_⟩))))
    rw [kOwn_eq rfl]
    walk_at "w1"
    refine ⟨by decide, ?_⟩
    rw [w_seq]
    walk_at "w1"
    have f01 : Fr 1 0 1 := ⟨by decide, by decide, by decide⟩
    refine ⟨by decide, wp_ok (a := (shD (a * 1 + 0 * b) (b * 1), [l3.map .int])) (plusD A f01 (by decide)) ⟨by decide, wp_ok (a := (shD (a * 1) (b * 1), [l3.map .int])) (timesD A fr11 (by decide)) ⟨by decide, ?_⟩⟩⟩
    rw [kOwn_eq rfl]
    walk_at "w1"
    refine ⟨by decide, ?_⟩
    rw [w_seq]
    walk_at "w1"
    refine loop_n (fun xs σ S => ∃ (ps : List D) (x6 : Sl), (∀ p ∈ xs, okQ p) ∧ S = [l3.map .int] ∧
      σ = [Sl.val (D.rol (List.map D.int ns)), Sl.val (D.ref 0), Sl.val (shD a b), Sl.val (shD c d), Sl.val (shD e f), Sl.val (.lst ps), x6]) _ _ _ _ ⟨_, .no, ?_, rfl, rfl⟩ ?_ ?_
    · intro p hp
      simp only [List.cons_append, List.nil_append, List.mem_cons, List.not_mem_nil, or_false] at hp
      rcases hp with rfl | rfl | rfl | rfl | rfl | rfl
      · exact okQ_of (A.plus C) (C.plus A).1 (by decide) (by grind)
      · exact okQ_of (A.times C) (C.times A).1 (by decide) (by grind)
      · exact okQ_of ((A.plus C).plus E) (A.plus (C.plus E)).1 (by decide) (by grind)
      · exact okQ_of ((A.times C).times E) (A.times (C.times E)).1 (by decide) (by grind)
      · exact okQ_of (A.times (C.plus E)) ((A.times C).plus (A.times E)).1 (by decide) (by grind)
      · exact okQ_of (A.plus f01) (A.times fr11).1 (by decide) (by grind)
    · rintro x r _ _ ⟨ps, x6, q1, rfl, rfl⟩
      obtain ⟨k, n, m, rfl, F, hk⟩ := q1 x (by simp)
      obtain ⟨g, u, v, e1, rfl, rfl, g1, g2, f1⟩ := F.red
      rw [e1]
      walk_at "wp"
      refine wp_ok sameR ?_
      walk_at "wp"
      refine wp_ok is_share_eq ?_
      have es : isSh (u : Int) (v : Int) = true := by
        have h1 : (0 : Int) ≤ (u : Int) := Int.natCast_nonneg u
        have h2 : (1 : Int) ≤ (v : Int) := Int.ofNat_le.2 f1.1
        unfold isSh
        rw [decide_eq_true h1, decide_eq_true h2, Int.natAbs_natCast, Int.natAbs_natCast, decide_eq_true g2]
        rfl
      rw [es]
      refine wp_ok (same_eq 11 _ _ rfl) ?_
      walk_at "wp"
      simp only [shR_0, shR_1]
      walk_at "wp"
      have hv := f1.1
      rw [if_neg (by omega), if_neg (by omega)]
      refine wp_ok (share_eq hv (p8000 f1.2.2 (by omega))) ?_
      rw [shR_low g2, DL.o_ne]
      refine ⟨⟨rfl, rfl⟩, ?_⟩
      have er : eqD (shR u v) (shR u v) = true := by simp [shR, eqD, eqDs]
      rw [er]
      walk_at "wp"
      exact ⟨ps, _, fun p hp => q1 p (by simp [hp]), rfl⟩
    · rintro _ _ ⟨ps, x6, q1, rfl, rfl⟩
      walk_at "w1"
      rw [w_seq]
      walk_at "w1"
      refine wp_ok (kept_eq A C E) ?_
      walk_at "w1"
      refine any_chance_wp hl fun n1 d1 l4 F1 G1 => ?_
      walk_at "w1"
      refine any_chance_wp hl fun n2 d2 l5 F2 G2 => ?_
      walk_at "w1"
      refine any_chance_wp hl fun n3 d3 l6 F3 G3 => ?_
      walk_at "w1"
      exact wp_ok (misses_eq F1 F2 F3 G1 G2 G3) rfl
  obtain ⟨⟨d, S'⟩, e1, e2⟩ := key
  exact ⟨S', by rw [e1, show d = _ from e2]⟩
end G


theorem PySem.Challenge.cw_rightchance_k05_whole_laws_of_fractions_holds : PySem.Challenge.rw_rightchance_k05_whole_laws_of_fractions.Holds := by
  exact G.close fun ns h1 h2 => G.law_ok (Nat.le_trans h1 (by decide)) (G.cells_of h2)
