import PyProof.Rows.All
import Wide.All
import OpenK.AllK
import Wide.FinOn
import HandS.ForMost
import HandS.Wide
import HandS.Deep
import HandS.Gcd
import KE.KDictKeyed
import KE.KeyNested
import HandS.TupAny
import PyProof.NeKinds
import HandS.IsInst
import HandS.Text
import HandS.Exc
import HandS.Defaults
import HandS.WideBits
import HandS.Head0
import HandS.Head1
import HandS.Head2
import HandS.Head3
import HandS.HeadEnd
import HandS.HeadHook1
import HandS.HeadHook2
import HandS.EndBits
import HandS.List
import HandS.Codes
import HandS.More
import PyProof.StrOps2
import KE.SortData
import KE.SortKeyHeap
import HandS.SortKw
import HandS.Iter
import HandS.Keys
import HandS.Rev
import HandS.Strs
import HandS.Set
import HandS.SetKeys
import HandS.Conv
import HandS.SetBool
import PyProof.IsRules
import KE.DataMinMax
import HandS.DictTup
import KE.KDictList
import KE.KDictCopyH
import KE.KDictWalk
import HandS.Zip
import HandS.DictComp
import HandS.ExcOwn
import HandS.TryOnly
import HandS.WordsExc
import HandS.ExcIs
import KE.KExcIs
import HandS.ReplaceList
import PySem.Challenge.RW_rightchance_k11_schemas_and_others
set_option Elab.async false
set_option autoImplicit false
set_option linter.all false
set_option maxRecDepth 100000
set_option exponentiation.threshold 20000
set_option maxHeartbeats 4000000
/-! DL0: data without addresses (D), the world (Wd), representation, expression readings lifted to data -/
namespace DL
open PySem L2

inductive D where
  | non | bl (b : Bool) | int (i : Int) | str (s : Str) | ref (i : Nat)
  | tup (ds : List D) | lst (ds : List D) | rol (ds : List D) | dcu (ks vs : List D) | dct (ks vs : List D)

/-- the module's objects, the world of texts -/
structure Fr where
  K : PySem.W.Frag
  w : World
instance : CoeOut Fr PySem.W.Frag := ⟨Fr.K⟩
abbrev _root_.L2.Cx.KW (X : L2.Cx) : Fr := ⟨X.K, X.w⟩

/-- shared objects, frozen objects, the script, the world of texts -/
structure Wd where
  m : List Addr
  T : Addr → Option HO
  sw : Option (Addr × List V) × World
abbrev Wd.sa (W : Wd) : Option (Addr × List V) := W.sw.1
abbrev Wd.w (W : Wd) : World := W.sw.2

/-! ### dicts: keys that are ints and texts; keys that are tuples -/
mutual
def nkD : D → Option NestedKey
  | .non => some .none
  | .int i => some (.num i)
  | .str s => some (.text s)
  | .tup ds => (nkDs ds).map .tup
  | _ => none
def nkDs : List D → Option (List NestedKey)
  | [] => some []
  | d :: ds => (nkD d).bind fun k => (nkDs ds).map fun ks => k :: ks
end
def keyD : Key → D
  | .inl i => .int i
  | .inr s => .str s
def NdAt (w : World) (a : Addr) (xs : List (NestedKey × Addr × V)) (h : Heap) : Prop := xs.length ≤ sizeLine ∧ (a == sysModules) = false ∧
  ∃ ys : List (NestedKey × Addr × Value), Paired (fun (p : NestedKey × Addr × V) (q : NestedKey × Addr × Value) => p.1 = q.1 ∧ p.2.1 = q.2.1 ∧ RelV p.2.2 q.2.2) xs ys ∧
    ∃ o es ep, h.get? a = some o ∧ o.ExactDict ∧ o.data = .dict es ep ∧ es.toList = ys.map (fun x => (⟨x.1.hash w, .ref x.2.1, x.2.2⟩ : DictEntry)) ∧ (ys.map (·.1)).Nodup
/-- a dict whose keys are tuples -/
def ndO (w : World) (a : Addr) (xs : List (NestedKey × Addr × V)) : HO := .ext (NdAt w a xs)
def DctO (w : World) (a : Addr) (ho : HO) (ks : List D) (us ws : List V) : Prop :=
  (∃ kvs : List (Key × V), ho = .dK kvs ∧ ks = kvs.map (fun p => keyD p.1) ∧ us = kvs.map (fun p => kV p.1) ∧ ws = kvs.map (·.2)) ∨
  (∃ xs : List (NestedKey × Addr × V), xs ≠ [] ∧ ho = ndO w a xs ∧ ks.map nkD = xs.map (fun x => some x.1) ∧ us = xs.map (fun x => V.ref x.2.1) ∧ ws = xs.map (·.2.2))

mutual
def Rep (W : Wd) : D → V → Prop
  | .non, v => v = .non
  | .bl b, v => v = .bl b
  | .int i, v => v = .int i
  | .str s, v => v = .str s
  | .ref i, v => ∃ a, W.m[i]? = some a ∧ v = .ref a
  | .tup ds, v => ∃ a vs, v = .ref a ∧ W.T a = some (.tup vs) ∧ Reps W ds vs
  | .lst ds, v => ∃ a vs, v = .ref a ∧ W.T a = some (.lst vs) ∧ Reps W ds vs
  | .rol ds, v => ∃ a vs, v = .ref a ∧ W.sa = some (a, vs) ∧ Reps W ds vs
  | .dcu ks vs, v => ∃ a ho us ws, v = .ref a ∧ W.T a = some ho ∧ DctO W.w a ho ks us ws ∧ Reps W ks us ∧ Reps W vs ws
  | .dct ks vs, v => ∃ a o ho us ws, v = .ref a ∧ W.T a = some (.frz o ho) ∧ DctO W.w a ho ks us ws ∧ Reps W ks us ∧ Reps W vs ws
def Reps (W : Wd) : List D → List V → Prop
  | [], vs => vs = []
  | d :: ds, vs => ∃ v r, vs = v :: r ∧ Rep W d v ∧ Reps W ds r
end

structure Le (W W' : Wd) : Prop where
  m : ∀ (i : Nat) (a : Addr), W.m[i]? = some a → W'.m[i]? = some a
  T : ∀ a o, W.T a = some o → W'.T a = some o
  sa : W'.sw = W.sw
theorem Le.sc {W W' : Wd} (l : Le W W') : W'.sa = W.sa := congrArg Prod.fst l.sa
theorem Le.we {W W' : Wd} (l : Le W W') : W'.w = W.w := congrArg Prod.snd l.sa
theorem Le.refl (W : Wd) : Le W W := ⟨fun _ _ h => h, fun _ _ h => h, rfl⟩
theorem Le.trans {W1 W2 W3 : Wd} (a : Le W1 W2) (b : Le W2 W3) : Le W1 W3 := ⟨fun i x h => b.m i x (a.m i x h), fun i x h => b.T i x (a.T i x h), b.sa.trans a.sa⟩

mutual
theorem Rep.mono {W W' : Wd} (l : Le W W') : ∀ (d : D) {v : V}, Rep W d v → Rep W' d v
  | .non, _, h => h
  | .bl _, _, h => h
  | .int _, _, h => h
  | .str _, _, h => h
  | .ref i, _, h => by
    obtain ⟨a, h1, h2⟩ := h
    exact ⟨a, l.m _ _ h1, h2⟩
  | .tup ds, _, h => by
    obtain ⟨a, vs, h1, h2, h3⟩ := h
    exact ⟨a, vs, h1, l.T _ _ h2, Reps.mono l ds h3⟩
  | .lst ds, _, h => by
    obtain ⟨a, vs, h1, h2, h3⟩ := h
    exact ⟨a, vs, h1, l.T _ _ h2, Reps.mono l ds h3⟩
  | .rol ds, _, h => by
    obtain ⟨a, vs, h1, h2, h3⟩ := h
    exact ⟨a, vs, h1, l.sc.trans h2, Reps.mono l ds h3⟩
  | .dcu ks es, _, h => by
    obtain ⟨a, ho, us, ws, h1, h2, h3, h4, h5⟩ := h
    exact ⟨a, ho, us, ws, h1, l.T _ _ h2, by rw [l.we]; exact h3, Reps.mono l ks h4, Reps.mono l es h5⟩
  | .dct ks es, _, h => by
    obtain ⟨a, o, ho, us, ws, h1, h2, h3, h4, h5⟩ := h
    exact ⟨a, o, ho, us, ws, h1, l.T _ _ h2, by rw [l.we]; exact h3, Reps.mono l ks h4, Reps.mono l es h5⟩
theorem Reps.mono {W W' : Wd} (l : Le W W') : ∀ (ds : List D) {vs : List V}, Reps W ds vs → Reps W' ds vs
  | [], _, h => h
  | d :: ds, _, h => by
    obtain ⟨v, r, h1, h2, h3⟩ := h
    exact ⟨v, r, h1, Rep.mono l d h2, Reps.mono l ds h3⟩
end
theorem Reps.length {W : Wd} : ∀ {ds : List D} {vs : List V}, Reps W ds vs → vs.length = ds.length
  | [], _, h => by obtain rfl : _ = [] := h; rfl
  | d :: ds, _, h => by
    obtain ⟨v, r, rfl, _, h3⟩ := h
    simp [Reps.length h3]
theorem Reps.get {W : Wd} : ∀ {ds : List D} {vs : List V} {i : Nat} {d : D}, Reps W ds vs → ds[i]? = some d → ∃ v, vs[i]? = some v ∧ Rep W d v
  | [], _, i, d, h, e => by simp at e
  | x :: ds, _, 0, d, h, e => by
    obtain ⟨v, r, rfl, h2, h3⟩ := h
    simp at e; subst e
    exact ⟨v, rfl, h2⟩
  | x :: ds, _, i + 1, d, h, e => by
    obtain ⟨v, r, rfl, h2, h3⟩ := h
    obtain ⟨u, h4, h5⟩ := Reps.get (i := i) h3 (by simpa using e)
    exact ⟨u, by simpa using h4, h5⟩
theorem Reps.append {W : Wd} : ∀ {ds es : List D} {vs us : List V}, Reps W ds vs → Reps W es us → Reps W (ds ++ es) (vs ++ us)
  | [], _, _, _, h, h' => by obtain rfl : _ = [] := h; exact h'
  | d :: ds, _, _, _, h, h' => by
    obtain ⟨v, r, rfl, h2, h3⟩ := h
    exact ⟨v, _, rfl, h2, Reps.append h3 h'⟩
theorem Reps.one {W : Wd} {d : D} {v : V} (h : Rep W d v) : Reps W [d] [v] := ⟨v, [], rfl, h, rfl⟩

/-- an object of the world stands in the heap (a dict while a loop walks it is locked) -/
def Stands (H : Hp) (a : Addr) : HO → Prop
  | .lst vs => H a = some (.lst vs)
  | .tup vs => ∃ x : Obj, x.dict = none ∧ H a = some (.frz x (.tup vs))
  | .frz x o => H a = some (.frz x o)
  | o => H a = some o ∨ ∃ x, H a = some (.frz x o)
theorem Stands.ex {H : Hp} {a : Addr} : ∀ {o : HO}, Stands H a o → ∃ u, H a = some u := by
  intro o h
  cases o with
  | lst vs => exact ⟨_, h⟩
  | tup vs => obtain ⟨x, _, h⟩ := h; exact ⟨_, h⟩
  | frz x u => exact ⟨_, h⟩
  | _ => rcases h with h | ⟨x, h⟩ <;> exact ⟨_, h⟩
theorem Stands.keep {H H' : Hp} {a : Addr} : ∀ {o : HO}, Stands H a o → (∀ u, H a = some u → H' a = some u) → Stands H' a o := by
  intro o h k
  cases o with
  | lst vs => exact k _ h
  | tup vs => obtain ⟨x, d, h⟩ := h; exact ⟨x, d, k _ h⟩
  | frz x u => exact k _ h
  | _ => rcases h with h | ⟨x, h⟩ <;> first | exact .inl (k _ h) | exact .inr ⟨x, k _ h⟩

abbrev Sh := List (List D)
/-- the script: locked, or an object of the module -/
def SaOk (K : Fr) (H : Hp) (a : Addr) (xs : List V) : Prop := (∃ o, H a = some (.frz o (.lst xs))) ∨
    ∃ (o : Obj) (its : Array Value) (n : Nat), K.K.lookup a = some o ∧ o.cls = .type "list" ∧ o.dict = none ∧ o.data = .seq its n ∧ its.size ≤ sizeLine ∧ Vals xs its.toList
theorem SaOk.seq {K : Fr} {H : Hp} {a : Addr} {xs : List V} (h : SaOk K H a xs) : SqL K H a xs := by
  rcases h with ⟨o, h⟩ | h
  · exact .inl (.inr ⟨o, h⟩)
  · exact .inr h

/-- heap and world agree; S: the shared lists -/
structure Base (K : Fr) (W : Wd) (S : Sh) (H : Hp) : Prop where
  fro : ∀ a o, W.T a = some o → Stands H a o
  len : W.m.length = S.length
  sh : ∀ (i : Nat) (ds : List D), S[i]? = some ds → ∃ a vs, W.m[i]? = some a ∧ H a = some (.lst vs) ∧ Reps W ds vs
  nod : W.m.Nodup
  apart : ∀ a, a ∈ W.m → W.T a = none
  sa : W.w = K.w ∧ ∀ a vs, W.sa = some (a, vs) → SaOk K H a vs

/-- a step from H to H': what stood stands, but the shared ones -/
structure Stp (W W' : Wd) (H H' : Hp) : Prop where
  le : Le W W'
  keep : ∀ b o, H b = some o → b ∉ W.m → H' b = some o
  new : ∀ b, b ∈ W'.m → b ∈ W.m ∨ H b = none
  ex : ∀ b o, H b = some o → ∃ o', H' b = some o'
  newT : ∀ b o, W'.T b = some o → W.T b = some o ∨ H b = none
theorem Stp.refl (W : Wd) (H : Hp) : Stp W W H H := ⟨.refl _, fun _ _ h _ => h, fun _ h => .inl h, fun _ o h => ⟨o, h⟩, fun _ _ h => .inl h⟩
theorem Stp.trans {W1 W2 W3 : Wd} {H1 H2 H3 : Hp} (a : Stp W1 W2 H1 H2) (b : Stp W2 W3 H2 H3) : Stp W1 W3 H1 H3 := by
  refine ⟨a.le.trans b.le, fun x o h n => ?_, fun x h => ?_, fun x o h => ?_, fun x o h => ?_⟩
  · refine b.keep x o (a.keep x o h n) fun q => ?_
    rcases a.new x q with z | z
    · exact n z
    · rw [h] at z; cases z
  · rcases b.new x h with z | z
    · exact a.new x z
    · cases q : H1 x with
      | none => exact .inr rfl
      | some o =>
        obtain ⟨o', e⟩ := a.ex x o q
        rw [e] at z; cases z
  · obtain ⟨o', e⟩ := a.ex x o h
    exact b.ex x o' e
  · rcases b.newT x o h with z | z
    · exact a.newT x o z
    · cases q : H1 x with
      | none => exact .inr rfl
      | some o =>
        obtain ⟨o', e⟩ := a.ex x o q
        rw [e] at z; cases z

/-- a new frozen object -/
theorem Base.laidG {K : Fr} {W : Wd} {S : Sh} {H : Hp} {p : Addr} {o o' : HO} (B : Base K W S H) (hp : H p = none) (hs : Stands (upd H p o') p o) :
    ∃ W', Stp W W' H (upd H p o') ∧ Base K W' S (upd H p o') ∧ W'.T p = some o ∧ W'.m = W.m := by
  have tn : W.T p = none := by
    cases q : W.T p with
    | none => rfl
    | some u =>
      obtain ⟨_, z⟩ := (B.fro p u q).ex
      rw [hp] at z; cases z
  have nm : p ∉ W.m := fun h => by
    obtain ⟨i, hi⟩ := List.getElem?_of_mem h
    have hl : i < S.length := by
      rw [← B.len]
      exact (List.getElem?_eq_some_iff.mp hi).1
    obtain ⟨a, vs, h1, h2, _⟩ := B.sh i S[i] (List.getElem?_eq_getElem hl)
    rw [hi] at h1; cases h1
    rw [hp] at h2; cases h2
  have le : Le W { W with T := fun b => if b = p then some o else W.T b } := ⟨fun _ _ h => h, fun a u h => by
    show (if a = p then some o else W.T a) = some u
    rw [if_neg (fun z => by rw [z, tn] at h; cases h)]
    exact h, rfl⟩
  refine ⟨{ W with T := fun b => if b = p then some o else W.T b }, ⟨le, fun b u h n => ?_, fun b h => .inl h, fun b u h => ?_, fun b u h => ?_⟩, ⟨fun a u h => ?_, B.len, fun i ds h => ?_, B.nod, fun a h => ?_, ⟨B.sa.1, fun a vs h => ?_⟩⟩, if_pos rfl, rfl⟩
  · rw [upd_ne (ne_of_none h hp)]
    exact h
  · by_cases e : b = p
    · exact ⟨o', by rw [e]; exact upd_same⟩
    · exact ⟨u, by rw [upd_ne e]; exact h⟩
  · have h' : (if b = p then some o else W.T b) = some u := h
    by_cases e : b = p
    · exact .inr (by rw [e]; exact hp)
    · rw [if_neg e] at h'
      exact .inl h'
  · have h' : (if a = p then some o else W.T a) = some u := h
    by_cases e : a = p
    · rw [if_pos e] at h'
      cases h'
      rw [e]
      exact hs
    · rw [if_neg e] at h'
      exact (B.fro a u h').keep fun v z => by rw [upd_ne e]; exact z
  · obtain ⟨a, vs, h1, h2, h3⟩ := B.sh i ds h
    exact ⟨a, vs, h1, by rw [upd_ne (ne_of_none h2 hp)]; exact h2, Reps.mono le ds h3⟩
  · show (if a = p then some o else W.T a) = none
    rw [if_neg (fun z => nm (by rw [← z]; exact h))]
    exact B.apart a h
  · have h1 := B.sa.2 a vs h
    rcases h1 with ⟨x, z⟩ | z
    · exact .inl ⟨x, by rw [upd_ne (ne_of_none z hp)]; exact z⟩
    · exact .inr z

theorem Base.laid {K : Fr} {W : Wd} {S : Sh} {H : Hp} {p : Addr} {vs : List V} (B : Base K W S H) (hp : H p = none) :
    ∃ W', Stp W W' H (upd H p (.lst vs)) ∧ Base K W' S (upd H p (.lst vs)) ∧ W'.T p = some (.lst vs) ∧ W'.m = W.m := B.laidG hp upd_same
theorem Base.laidT {K : Fr} {W : Wd} {S : Sh} {H : Hp} {p : Addr} {x : Obj} {vs : List V} (B : Base K W S H) (hp : H p = none) (hd : x.dict = none) :
    ∃ W', Stp W W' H (upd H p (.frz x (.tup vs))) ∧ Base K W' S (upd H p (.frz x (.tup vs))) ∧ W'.T p = some (.tup vs) ∧ W'.m = W.m := B.laidG hp ⟨x, hd, upd_same⟩
theorem Base.tupX {K : Fr} {W : Wd} {S : Sh} {H : Hp} (B : Base K W S H) {a : Addr} {vs : List V} (h : W.T a = some (.tup vs)) : ∃ x : Obj, x.dict = none ∧ H a = some (.frz x (.tup vs)) := B.fro a _ h
theorem Base.tup {K : Fr} {W : Wd} {S : Sh} {H : Hp} (B : Base K W S H) {a : Addr} {vs : List V} (h : W.T a = some (.tup vs)) : SqT K H a vs := by
  obtain ⟨x, _, z⟩ := B.tupX h
  exact .inl (.inr ⟨x, z⟩)
theorem Base.lst {K : Fr} {W : Wd} {S : Sh} {H : Hp} (B : Base K W S H) {a : Addr} {vs : List V} (h : W.T a = some (.lst vs)) : H a = some (.lst vs) := B.fro a _ h
/-- what is a list or a tuple -/
def seqD : D → Option (List D)
  | .lst ds => some ds
  | .rol ds => some ds
  | .tup ds => some ds
  | _ => none
theorem Base.seq {K : Fr} {W : Wd} {S : Sh} {H : Hp} (B : Base K W S H) {d : D} {v : V} {ds : List D} (r : Rep W d v) (e : seqD d = some ds) : ∃ a vs, v = .ref a ∧ (SqL K H a vs ∨ SqT K H a vs) ∧ Reps W ds vs := by
  cases d with
  | lst xs =>
    cases e
    obtain ⟨a, vs, h1, h2, h3⟩ := r
    exact ⟨a, vs, h1, .inl (SqL.of (B.lst h2)), h3⟩
  | rol xs =>
    cases e
    obtain ⟨a, vs, h1, h2, h3⟩ := r
    exact ⟨a, vs, h1, .inl (B.sa.2 a vs h2).seq, h3⟩
  | tup xs =>
    cases e
    obtain ⟨a, vs, h1, h2, h3⟩ := r
    exact ⟨a, vs, h1, .inr (B.tup h2), h3⟩
  | _ => cases e

/-- the environment -/
abbrev Env' := List (Option D)
def EnvR (W : Wd) (ρ : Env') (σ : St) : Prop := ρ.length = σ.length ∧ ∀ (i : Nat) (d : D), ρ[i]? = some (some d) → ∃ v, σ[i]? = some (some v) ∧ Rep W d v
theorem EnvR.mono {W W' : Wd} {ρ : Env'} {σ : St} (l : Le W W') (h : EnvR W ρ σ) : EnvR W' ρ σ := ⟨h.1, fun i d e => let ⟨v, a, b⟩ := h.2 i d e; ⟨v, a, b.mono l⟩⟩

structure Rel (K : Fr) (W : Wd) (ρ : Env') (S : Sh) (σ : St) (H : Hp) : Prop where
  base : Base K W S H
  env : EnvR W ρ σ

abbrev DE := Env' → Sh → Option (D × Sh)
abbrev DT := Env' → Sh → Option (Bool × Sh)
abbrev DA := Env' → Sh → Option (List D × Sh)

def liftE (K : Fr) (d : DE) : TE := fun σ H Q => ∃ W ρ S r S', Rel K W ρ S σ H ∧ d ρ S = some (r, S') ∧ ∀ W' v H', Stp W W' H H' → Rel K W' ρ S' σ H' → Rep W' r v → Q v H'
def liftT (K : Fr) (d : DT) : TT := fun σ H Q => ∃ W ρ S r S', Rel K W ρ S σ H ∧ d ρ S = some (r, S') ∧ ∀ W' H', Stp W W' H H' → Rel K W' ρ S' σ H' → Q r H'
def liftA (K : Fr) (d : DA) : TA := fun σ H Q => ∃ W ρ S r S', Rel K W ρ S σ H ∧ d ρ S = some (r, S') ∧ ∀ W' vs H', Stp W W' H H' → Rel K W' ρ S' σ H' → Reps W' r vs → Q vs H'

abbrev PE' (X : Cx) (e : Expr) (d : DE) : Prop := PE X e (liftE X.KW d)
abbrev PT' (X : Cx) (e : Expr) (d : DT) : Prop := PT X e (liftT X.KW d)
abbrev PA' (X : Cx) (es : List Expr) (d : DA) : Prop := PA X es (liftA X.KW d)

theorem PE.imp {X : Cx} {e : Expr} {t t' : TE} (h : PE X e t) (hi : ∀ σ H Q, t' σ H Q → t σ H Q) : PE X e t' := ⟨fun pins s σ H Q I hw => h.run pins s σ H Q I (hi _ _ _ hw)⟩
theorem PT.imp {X : Cx} {e : Expr} {t t' : TT} (h : PT X e t) (hi : ∀ σ H Q, t' σ H Q → t σ H Q) : PT X e t' := ⟨fun pins s σ H Q I hw => h.run pins s σ H Q I (hi _ _ _ hw)⟩
theorem PA.imp {X : Cx} {e : List Expr} {t t' : TA} (h : PA X e t) (hi : ∀ σ H Q, t' σ H Q → t σ H Q) : PA X e t' := ⟨fun pos pins s σ H Q I hw => h.run pos pins s σ H Q I (hi _ _ _ hw)⟩

/-! ### names, constants -/
def dV (i : Nat) : DE := fun ρ S => match ρ[i]? with | some (some d) => some (d, S) | _ => none
def dC (c : D) : DE := fun _ S => some (c, S)
section
variable {X : Cx} {a b c e : Expr} {es : List Expr} {da db dc : DE} {dt : DT} {dl : DA} {pos : Pos}
theorem dpv (i : Nat) {x : Str} {pos : Pos} (hN : X.N[i]? = some x := by rfl) (hv : Vis X.env.scope x := by first | exact Or.inl rfl | exact Or.inr (Or.inl rfl) | exact Or.inr (Or.inr rfl)) (hd : (x == ("__debug__" : Str)) = false := by decide)
    (hcd : (x == ("__classdict__" : Str)) = false := by decide) : PE' X (.Name x pos) (dV i) := PE.imp (pv i hN hv hd hcd) fun σ H Q => by
  rintro ⟨W, ρ, S, r, S', R, hd, k⟩
  unfold dV at hd
  split at hd
  · rename_i d q
    cases hd
    obtain ⟨v, h1, h2⟩ := R.env.2 i r q
    exact ⟨v, h1, k W v H (.refl _ _) R h2⟩
  · cases hd
theorem liftC {t : TE} {v : V} {d : D} (h : PE X e (tC v)) (hr : ∀ W, Rep W d v) : PE' X e (dC d) := PE.imp h fun σ H Q => by
  rintro ⟨W, ρ, S, r, S', R, hd, k⟩
  cases hd
  exact k W v H (.refl _ _) R (hr W)
theorem dpe_int {i j pos} : PE' X (.Constant (.int i) j pos) (dC (.int i)) := liftC (t := tC (.int i)) pe_int fun _ => rfl
theorem dpe_bl {i j pos} : PE' X (.Constant (.bool i) j pos) (dC (.bl i)) := liftC (t := tC (.bl i)) pe_bl fun _ => rfl
theorem dpe_non {j pos} : PE' X (.Constant .none j pos) (dC .non) := liftC (t := tC .non) pe_non fun _ => rfl
theorem dpe_str {x j pos} : PE' X (.Constant (.str x) j pos) (dC (.str x)) := liftC (t := tC (.str x)) pe_str fun _ => rfl

/-! ### argument lists -/
def dNil : DA := fun _ S => some ([], S)
def dCons (d : DE) (r : DA) : DA := fun ρ S => match d ρ S with
  | some (x, S1) => match r ρ S1 with
    | some (xs, S2) => some (x :: xs, S2)
    | none => none
  | none => none
theorem dpa_nil : PA' X [] dNil := PA.imp pa_nil fun σ H Q => by
  rintro ⟨W, ρ, S, r, S', R, hd, k⟩
  cases hd
  exact k W [] H (.refl _ _) R rfl
theorem dpa_cons (ha : PE' X e da) (hr : PA' X es dl) (hs : starEach (e :: es) X.env = (false, eval e X.env) :: starEach es X.env := by rfl) : PA' X (e :: es) (dCons da dl) := PA.imp (pa_cons ha hr hs) fun σ H Q => by
  rintro ⟨W, ρ, S, r, S', R, hd, k⟩
  unfold dCons at hd
  split at hd
  · rename_i x S1 e1
    split at hd
    · rename_i xs S2 e2
      cases hd
      refine ⟨W, ρ, S, x, S1, R, e1, fun W1 v H1 s1 R1 r1 => ⟨W1, ρ, S1, xs, S', R1, e2, fun W2 vs H2 s2 R2 r2 => ?_⟩⟩
      exact k W2 (v :: vs) H2 (s1.trans s2) R2 ⟨v, vs, rfl, r1.mono s2.le, r2⟩
    · cases hd
  · cases hd
end
end DL


/-! DL1: equality of data at any depth, membership -/
namespace DL
open PySem L2

mutual
/-- what == may be asked of: none, bools, ints, texts, tuples and lists of such, n levels deep at most -/
def eqOk : Nat → D → Bool
  | _, .non => true
  | _, .bl _ => true
  | _, .int _ => true
  | _, .str _ => true
  | n, .tup ds => match n with | 0 => false | n + 1 => eqOks n ds
  | n, .lst ds => match n with | 0 => false | n + 1 => eqOks n ds
  | _, _ => false
def eqOks : Nat → List D → Bool
  | _, [] => true
  | n, d :: ds => eqOk n d && eqOks n ds
end
mutual
/-- Python's == -/
def eqD : D → D → Bool
  | .non, .non => true
  | .bl a, .bl b => a == b
  | .bl a, .int j => (if a then 1 else 0) == j
  | .int i, .bl b => i == (if b then 1 else 0)
  | .int i, .int j => i == j
  | .str x, .str y => x == y
  | .tup xs, .tup ys => eqDs xs ys
  | .lst xs, .lst ys => eqDs xs ys
  | _, _ => false
def eqDs : List D → List D → Bool
  | [], [] => true
  | x :: xs, y :: ys => eqD x y && eqDs xs ys
  | _, _ => false
end
mutual
theorem eqD_refl : ∀ (n : Nat) (d : D), eqOk n d = true → eqD d d = true
  | _, .non, _ => by simp [eqD]
  | _, .bl _, _ => by simp [eqD]
  | _, .int _, _ => by simp [eqD]
  | _, .str _, _ => by simp [eqD]
  | 0, .tup ds, h => by simp [eqOk] at h
  | n + 1, .tup ds, h => by
    rw [eqD]
    exact eqDs_refl n ds (by simpa [eqOk] using h)
  | 0, .lst ds, h => by simp [eqOk] at h
  | n + 1, .lst ds, h => by
    rw [eqD]
    exact eqDs_refl n ds (by simpa [eqOk] using h)
  | _, .rol ds, h => by simp [eqOk] at h
  | _, .ref ds, h => by simp [eqOk] at h
  | _, .dcu ds es, h => by simp [eqOk] at h
  | _, .dct ds es, h => by simp [eqOk] at h
theorem eqDs_refl : ∀ (n : Nat) (ds : List D), eqOks n ds = true → eqDs ds ds = true
  | _, [], _ => by simp [eqDs]
  | n, d :: ds, h => by
    rw [eqOks, Bool.and_eq_true] at h
    rw [eqDs, eqD_refl n d h.1, eqDs_refl n ds h.2]
    rfl
end
theorem eqOks_get {n : Nat} : ∀ {ds : List D} {i : Nat} {d : D}, eqOks n ds = true → ds[i]? = some d → eqOk n d = true
  | [], _, _, _, e => by simp at e
  | x :: xs, 0, d, h, e => by
    rw [eqOks, Bool.and_eq_true] at h
    simp at e; subst e
    exact h.1
  | x :: xs, i + 1, d, h, e => by
    rw [eqOks, Bool.and_eq_true] at h
    exact eqOks_get h.2 (by simpa using e)
mutual
theorem Rep.inj {W : Wd} : ∀ (n : Nat) (d e : D) {v : V}, eqOk n d = true → eqOk n e = true → Rep W d v → Rep W e v → d = e
  | n, .non, e, v, _, oe, h, h' => by
    obtain rfl : v = .non := h
    cases e <;> first | (cases h'; rfl) | (cases h'; done) | (simp [eqOk] at oe; done) | (obtain ⟨a, _, z, _⟩ := h'; cases z)
  | n, .bl b, e, v, _, oe, h, h' => by
    obtain rfl : v = .bl b := h
    cases e <;> first | (cases h'; rfl) | (cases h'; done) | (simp [eqOk] at oe; done) | (obtain ⟨a, _, z, _⟩ := h'; cases z)
  | n, .int b, e, v, _, oe, h, h' => by
    obtain rfl : v = .int b := h
    cases e <;> first | (cases h'; rfl) | (cases h'; done) | (simp [eqOk] at oe; done) | (obtain ⟨a, _, z, _⟩ := h'; cases z)
  | n, .str b, e, v, _, oe, h, h' => by
    obtain rfl : v = .str b := h
    cases e <;> first | (cases h'; rfl) | (cases h'; done) | (simp [eqOk] at oe; done) | (obtain ⟨a, _, z, _⟩ := h'; cases z)
  | n, .dcu _ _, e, v, od, oe, h, h' => by cases n <;> simp [eqOk] at od
  | n, .dct _ _, e, v, od, oe, h, h' => by cases n <;> simp [eqOk] at od
  | n, .ref i, e, v, od, oe, h, h' => by simp [eqOk] at od
  | n, .rol i, e, v, od, oe, h, h' => by simp [eqOk] at od
  | 0, .tup ds, e, v, od, oe, h, h' => by simp [eqOk] at od
  | n + 1, .tup ds, e, v, od, oe, h, h' => by
    obtain ⟨a, vs, rfl, t, r⟩ := h
    cases e with
    | tup es =>
      obtain ⟨b, us, z, t', r'⟩ := h'
      cases z
      rw [t] at t'
      cases t'
      rw [Reps.inj n ds es (by simpa [eqOk] using od) (by simpa [eqOk] using oe) r r']
    | lst i => obtain ⟨b, _, z, t', _⟩ := h'; cases z; rw [t] at t'; cases t'
    | _ => first | (cases h'; done) | (simp [eqOk] at oe; done)
  | 0, .lst ds, e, v, od, oe, h, h' => by simp [eqOk] at od
  | n + 1, .lst ds, e, v, od, oe, h, h' => by
    obtain ⟨a, vs, rfl, t, r⟩ := h
    cases e with
    | lst es =>
      obtain ⟨b, us, z, t', r'⟩ := h'
      cases z
      rw [t] at t'
      cases t'
      rw [Reps.inj n ds es (by simpa [eqOk] using od) (by simpa [eqOk] using oe) r r']
    | tup i => obtain ⟨b, _, z, t', _⟩ := h'; cases z; rw [t] at t'; cases t'
    | _ => first | (cases h'; done) | (simp [eqOk] at oe; done)
theorem Reps.inj {W : Wd} : ∀ (n : Nat) (ds es : List D) {vs : List V}, eqOks n ds = true → eqOks n es = true → Reps W ds vs → Reps W es vs → ds = es
  | n, [], es, vs, _, _, h, h' => by
    obtain rfl : vs = [] := h
    cases es with
    | nil => rfl
    | cons e es => obtain ⟨v, r, z, _⟩ := h'; cases z
  | n, d :: ds, es, vs, od, oe, h, h' => by
    obtain ⟨v, r, rfl, h2, h3⟩ := h
    cases es with
    | nil => cases h'
    | cons e es =>
      obtain ⟨v', r', z, h4, h5⟩ := h'
      cases z
      rw [eqOks, Bool.and_eq_true] at od oe
      rw [Rep.inj n d e od.1 oe.1 h2 h4, Reps.inj n ds es od.2 oe.2 h3 h5]
end
theorem eqDs_len : ∀ {ds es : List D}, ds.length ≠ es.length → eqDs ds es = false
  | [], [], h => absurd rfl h
  | [], _ :: _, _ => by simp [eqDs]
  | _ :: _, [], _ => by simp [eqDs]
  | x :: xs, y :: ys, h => by
    rw [eqDs, eqDs_len (fun e => h (by simp [e]))]
    simp
theorem eqDs_all : ∀ (ds es : List D), ds.length = es.length → eqDs ds es = (List.range ds.length).all fun j => eqD (ds.getD j .non) (es.getD j .non)
  | [], [], _ => by simp [eqDs]
  | [], _ :: _, h => by simp at h
  | _ :: _, [], h => by simp at h
  | x :: xs, y :: ys, h => by
    rw [eqDs, eqDs_all xs ys (by simpa using h), List.length_cons, List.range_succ_eq_map, List.all_cons, List.all_map]
    rfl

section
variable {X : Cx} {pins : List (Addr × Obj)} {σ : St} {H : Hp} {s : Shared} {W : Wd} {S : Sh}
theorem Reps.vals {ds : List D} {vs : List V} {us : List Value} {j : Nat} (r : Reps W ds vs) (q : Vals vs us) (h : j < us.length) : ∃ x, Rep W (ds.getD j .non) x ∧ RelV x us[j] := by
  have l1 := r.length
  have l2 := q.length
  have h1 : j < ds.length := by omega
  obtain ⟨x, hx, rx⟩ := r.get (i := j) (d := ds[j]) (List.getElem?_eq_getElem h1)
  obtain ⟨u, hu, ru⟩ := q.get hx
  rw [List.getElem?_eq_getElem h] at hu
  cases hu
  exact ⟨x, by rw [List.getD_eq_getElem?_getD, List.getElem?_eq_getElem h1]; exact rx, ru⟩
theorem range_all {n : Nat} {f g : Nat → Bool} (h : ∀ j, j < n → f j = g j) : (List.range n).all f = (List.range n).all g := by
  rw [Bool.eq_iff_iff, List.all_eq_true, List.all_eq_true]
  exact ⟨fun z j hj => by rw [← h j (List.mem_range.mp hj)]; exact z j hj, fun z j hj => by rw [h j (List.mem_range.mp hj)]; exact z j hj⟩

theorem Base.isTup (I : Inv X pins σ H s) (B : Base X.KW W S H) {ds : List D} {x : V} {v : Value} (h : Rep W (.tup ds) x) (r : RelV x v) :
    ∃ a vs us, x = .ref a ∧ v = .ref a ∧ Reps W ds vs ∧ Vals vs us ∧ s.heap.IsTuple a us.toArray ∧ W.T a = some (.tup vs) := by
  obtain ⟨a, vs, rfl, t, q⟩ := h
  obtain rfl : v = Value.ref a := r
  obtain ⟨us, r1, pl, _⟩ := I.tuple (B.tup t)
  exact ⟨a, vs, us, rfl, rfl, q, r1, pl, t⟩
theorem Base.isLst (I : Inv X pins σ H s) (B : Base X.KW W S H) {ds : List D} {x : V} {v : Value} (h : Rep W (.lst ds) x) (r : RelV x v) :
    ∃ a vs us, x = .ref a ∧ v = .ref a ∧ Reps W ds vs ∧ Vals vs us ∧ s.heap.IsList a us.toArray ∧ W.T a = some (.lst vs) := by
  obtain ⟨a, vs, rfl, t, q⟩ := h
  obtain rfl : v = Value.ref a := r
  obtain ⟨us, r1, pl, _⟩ := I.list (SqL.of (B.lst t))
  exact ⟨a, vs, us, rfl, rfl, q, r1, pl.isList, t⟩

def isScal : D → Bool
  | .non => true | .bl _ => true | .int _ => true | .str _ => true | _ => false
def sv : D → Tok → Value
  | .bl b, _ => .bool b
  | .int i, t => .int i t
  | .str x, t => .str x t
  | _, _ => .none
theorem sv_of {d : D} {x : V} {v : Value} (h : isScal d = true) (r : Rep W d x) (q : RelV x v) : ∃ t, v = sv d t := by
  cases d with
  | non => obtain rfl : x = .non := r; exact ⟨default, q⟩
  | bl b => obtain rfl : x = .bl b := r; exact ⟨default, q⟩
  | int b => obtain rfl : x = .int b := r; exact q
  | str b => obtain rfl : x = .str b := r; exact q
  | _ => cases h
open SeqAt in
theorem eq_sv (A : Around) (t t' : Tok) : ∀ (d e : D), isScal d = true → isScal e = true → EqAt A s (sv d t) (sv e t') (eqD d e) ∧ RcAt A s (sv d t) (sv e t') (eqD d e)
  | .non, .non, _, _ => ⟨.same _, .none_none⟩
  | .non, .bl b, _, _ => ⟨.none_bool _, .none_bool _⟩
  | .non, .int b, _, _ => ⟨.none_int _ _, .none_int _ _⟩
  | .non, .str b, _, _ => ⟨.none_str _ _, .none_str _ _⟩
  | .bl a, .non, _, _ => ⟨.bool_none _, .bool_none _⟩
  | .bl a, .bl b, _, _ => ⟨.bool_bool _ _, .bool_bool _ _⟩
  | .bl a, .int b, _, _ => ⟨.bool_int _ _ _, .bool_int _ _ _⟩
  | .bl a, .str b, _, _ => ⟨.bool_str _ _ _, .bool_str _ _ _⟩
  | .int a, .non, _, _ => ⟨.int_none _ _, .int_none _ _⟩
  | .int a, .bl b, _, _ => ⟨.int_bool _ _ _, .int_bool _ _ _⟩
  | .int a, .int b, _, _ => ⟨.int_int _ _ _ _, .int_int _ _ _ _⟩
  | .int a, .str b, _, _ => ⟨.int_str _ _ _ _, .int_str _ _ _ _⟩
  | .str a, .non, _, _ => ⟨.str_none _ _, .str_none _ _⟩
  | .str a, .bl b, _, _ => ⟨.str_bool _ _ _, .str_bool _ _ _⟩
  | .str a, .int b, _, _ => ⟨.str_int _ _ _ _, .str_int _ _ _ _⟩
  | .str a, .str b, _, _ => ⟨.str_str _ _ _ _, .str_str _ _ _ _⟩
open SeqAt in
theorem eq_scal (A : Around) (d e : D) (x y : V) (v u : Value) (hd : isScal d = true) (he : isScal e = true) (rd : Rep W d x) (re : Rep W e y) (rx : RelV x v) (ry : RelV y u) : EqAt A s v u (eqD d e) ∧ RcAt A s v u (eqD d e) := by
  obtain ⟨t, rfl⟩ := sv_of hd rd rx
  obtain ⟨t', rfl⟩ := sv_of he re ry
  exact eq_sv A t t' d e hd he
open SeqAt in
theorem tup_scal {A : Around} {l : Addr} {items : Array Value} (hl : s.heap.IsTuple l items) (hu : A.units < cLine) {ds : List D} : ∀ (e : D) (y : V) (u : Value), isScal e = true → Rep W e y → RelV y u →
    (EqAt A s (.ref l) u (eqD (.tup ds) e) ∧ RcAt A s (.ref l) u (eqD (.tup ds) e)) ∧ (EqAt A s u (.ref l) (eqD e (.tup ds)) ∧ RcAt A s u (.ref l) (eqD e (.tup ds)))
  | .non, _, _, _, rfl, rfl => ⟨⟨.tuple_none hl hu, .tuple_none hl hu⟩, ⟨.none_tuple hl hu, .none_tuple hl hu⟩⟩
  | .bl _, _, _, _, rfl, rfl => ⟨⟨.tuple_bool _ hl hu, .tuple_bool _ hl hu⟩, ⟨.bool_tuple _ hl hu, .bool_tuple _ hl hu⟩⟩
  | .int _, _, _, _, rfl, ⟨_, rfl⟩ => ⟨⟨.tuple_int _ _ hl hu, .tuple_int _ _ hl hu⟩, ⟨.int_tuple _ _ hl hu, .int_tuple _ _ hl hu⟩⟩
  | .str _, _, _, _, rfl, ⟨_, rfl⟩ => ⟨⟨.tuple_str _ _ hl hu, .tuple_str _ _ hl hu⟩, ⟨.str_tuple _ _ hl hu, .str_tuple _ _ hl hu⟩⟩
open SeqAt in
theorem lst_scal {A : Around} {l : Addr} {items : Array Value} (hl : s.heap.IsList l items) (hu : A.units < cLine) {ds : List D} : ∀ (e : D) (y : V) (u : Value), isScal e = true → Rep W e y → RelV y u →
    (EqAt A s (.ref l) u (eqD (.lst ds) e) ∧ RcAt A s (.ref l) u (eqD (.lst ds) e)) ∧ (EqAt A s u (.ref l) (eqD e (.lst ds)) ∧ RcAt A s u (.ref l) (eqD e (.lst ds)))
  | .non, _, _, _, rfl, rfl => ⟨⟨.list_none hl hu, .list_none hl hu⟩, ⟨.none_list hl hu, .none_list hl hu⟩⟩
  | .bl _, _, _, _, rfl, rfl => ⟨⟨.list_bool _ hl hu, .list_bool _ hl hu⟩, ⟨.bool_list _ hl hu, .bool_list _ hl hu⟩⟩
  | .int _, _, _, _, rfl, ⟨_, rfl⟩ => ⟨⟨.list_int _ _ hl hu, .list_int _ _ hl hu⟩, ⟨.int_list _ _ hl hu, .int_list _ _ hl hu⟩⟩
  | .str _, _, _, _, rfl, ⟨_, rfl⟩ => ⟨⟨.list_str _ _ hl hu, .list_str _ _ hl hu⟩, ⟨.str_list _ _ hl hu, .str_list _ _ hl hu⟩⟩
theorem in1_units (A : Around) : A.in1.units = A.units + 1 := rfl
open SeqAt in
theorem eq_rc (I : Inv X pins σ H s) (B : Base X.KW W S H) : ∀ (n : Nat) (d e : D) (A : Around) (x y : V) (v u : Value), eqOk n d = true → eqOk n e = true → A.units + n < cLine → Rep W d x → Rep W e y → RelV x v → RelV y u → EqAt A s v u (eqD d e) ∧ RcAt A s v u (eqD d e) := by
  intro n
  induction n with
  | zero =>
    intro d e A x y v u od oe hu rd re rx ry
    refine eq_scal A d e x y v u ?_ ?_ rd re rx ry
    · cases d <;> first | rfl | (simp [eqOk] at od; done)
    · cases e <;> first | rfl | (simp [eqOk] at oe; done)
  | succ n ih =>
    intro d e A x y v u od oe hu rd re rx ry
    have hu0 : A.units < cLine := by omega
    have hu1 : A.in1.units + n < cLine := by rw [in1_units]; omega
    by_cases sd : isScal d = true
    · by_cases se : isScal e = true
      · exact eq_scal A d e x y v u sd se rd re rx ry
      · cases e with
        | tup es =>
          obtain ⟨a, vs, us, rfl, rfl, q, r1, pl, t⟩ := B.isTup I re ry
          exact (tup_scal pl hu0 d x v sd rd rx).2
        | lst es =>
          obtain ⟨a, vs, us, rfl, rfl, q, r1, pl, t⟩ := B.isLst I re ry
          exact (lst_scal pl hu0 d x v sd rd rx).2
        | _ => first | exact absurd rfl se | (simp [eqOk] at oe; done)
    · cases d with
      | tup ds =>
        obtain ⟨a, vs, us, rfl, rfl, q, r1, pl, t⟩ := B.isTup I rd rx
        cases e with
        | tup es =>
          obtain ⟨b, vs', us', rfl, rfl, q', r1', pl', t'⟩ := B.isTup I re ry
          have od' : eqOks n ds = true := by simpa [eqOk] using od
          have oe' : eqOks n es = true := by simpa [eqOk] using oe
          have l1 := q.length
          have l2 := q'.length
          have l3 := r1.length
          have l4 := r1'.length
          have rc : RcAt A s (.ref a) (.ref b) (eqD (.tup ds) (.tup es)) := by
            have z := RcAt.tuples (A := A) (e := fun j => eqD (ds.getD j .non) (es.getD j .non)) pl pl' hu0 fun j h1 h2 => by
              have h1' : j < us.length := by simpa using h1
              have h2' : j < us'.length := by simpa using h2
              obtain ⟨x1, p1, p2⟩ := q.vals r1 h1'
              obtain ⟨y1, p3, p4⟩ := q'.vals r1' h2'
              have := (ih _ _ A.in1 x1 y1 us[j] us'[j] (eqOks_get (i := j) od' (by rw [List.getD_eq_getElem?_getD, List.getElem?_eq_getElem (by omega)]; rfl)) (eqOks_get (i := j) oe' (by rw [List.getD_eq_getElem?_getD, List.getElem?_eq_getElem (by omega)]; rfl)) hu1 p1 p3 p2 p4).1
              simpa using this
            have e1 : us.toArray.size = ds.length := by simp; omega
            have e2 : us'.toArray.size = es.length := by simp; omega
            rw [e1, e2] at z
            rw [eqD]
            by_cases hl : ds.length = es.length
            · rw [eqDs_all _ _ hl]
              rw [← hl, Nat.min_self, beq_self_eq_true, Bool.and_true] at z
              exact z
            · rw [eqDs_len hl]
              rw [show (ds.length == es.length) = false by simpa using hl, Bool.and_false] at z
              exact z
          refine ⟨?_, rc⟩
          by_cases hab : a = b
          · subst hab
            rw [Rep.inj (n + 1) _ _ od oe rd re, eqD_refl (n + 1) _ oe]
            exact .same _
          · exact .of_refs hab rc
        | lst es =>
          obtain ⟨b, vs', us', rfl, rfl, q', r1', pl', t'⟩ := B.isLst I re ry
          exact ⟨.tuple_list pl pl' hu0, .tuple_list pl pl' hu0⟩
        | _ => first | exact (tup_scal pl hu0 _ y u rfl re ry).1 | (simp [eqOk] at oe; done)
      | lst ds =>
        obtain ⟨a, vs, us, rfl, rfl, q, r1, pl, t⟩ := B.isLst I rd rx
        cases e with
        | lst es =>
          obtain ⟨b, vs', us', rfl, rfl, q', r1', pl', t'⟩ := B.isLst I re ry
          have od' : eqOks n ds = true := by simpa [eqOk] using od
          have oe' : eqOks n es = true := by simpa [eqOk] using oe
          have l1 := q.length
          have l2 := q'.length
          have l3 := r1.length
          have l4 := r1'.length
          have e1 : us.toArray.size = ds.length := by simp; omega
          have e2 : us'.toArray.size = es.length := by simp; omega
          have rc : RcAt A s (.ref a) (.ref b) (eqD (.lst ds) (.lst es)) := by
            rw [eqD]
            by_cases hl : ds.length = es.length
            · have z := RcAt.lists (A := A) (e := fun j => eqD (ds.getD j .non) (es.getD j .non)) pl pl' (by omega) hu0 fun j h1 h2 => by
                have h1' : j < us.length := by simpa using h1
                have h2' : j < us'.length := by simpa using h2
                obtain ⟨x1, p1, p2⟩ := q.vals r1 h1'
                obtain ⟨y1, p3, p4⟩ := q'.vals r1' h2'
                have := (ih _ _ A.in1 x1 y1 us[j] us'[j] (eqOks_get (i := j) od' (by rw [List.getD_eq_getElem?_getD, List.getElem?_eq_getElem (by omega)]; rfl)) (eqOks_get (i := j) oe' (by rw [List.getD_eq_getElem?_getD, List.getElem?_eq_getElem (by omega)]; rfl)) hu1 p1 p3 p2 p4).1
                simpa using this
              rw [e1] at z
              rw [eqDs_all _ _ hl]
              exact z
            · rw [eqDs_len hl]
              exact RcAt.lists_lengths pl pl' (by rw [e1, e2]; simpa using hl) hu0
          refine ⟨?_, rc⟩
          by_cases hab : a = b
          · subst hab
            rw [Rep.inj (n + 1) _ _ od oe rd re, eqD_refl (n + 1) _ oe]
            exact .same _
          · exact .of_refs hab rc
        | tup es =>
          obtain ⟨b, vs', us', rfl, rfl, q', r1', pl', t'⟩ := B.isTup I re ry
          exact ⟨.list_tuple pl pl' hu0, .list_tuple pl pl' hu0⟩
        | _ => first | exact (lst_scal pl hu0 _ y u rfl re ry).1 | (simp [eqOk] at oe; done)
      | _ => first | exact absurd rfl sd | (simp [eqOk] at od; done)
open SeqAt in
theorem ne_sv (A : Around) (t t' : Tok) : ∀ (d e : D), isScal d = true → isScal e = true → RcNeAt A s (sv d t) (sv e t') (!eqD d e)
  | .non, .non, _, _ => .none_none
  | .non, .bl b, _, _ => .none_bool _
  | .non, .int b, _, _ => .none_int _ _
  | .non, .str b, _, _ => .none_str _ _
  | .bl a, .non, _, _ => .bool_none _
  | .bl a, .bl b, _, _ => .bool_bool _ _
  | .bl a, .int b, _, _ => .bool_int _ _ _
  | .bl a, .str b, _, _ => .bool_str _ _ _
  | .int a, .non, _, _ => .int_none _ _
  | .int a, .bl b, _, _ => .int_bool _ _ _
  | .int a, .int b, _, _ => .int_int _ _ _ _
  | .int a, .str b, _, _ => .int_str _ _ _ _
  | .str a, .non, _, _ => .str_none _ _
  | .str a, .bl b, _, _ => .str_bool _ _ _
  | .str a, .int b, _, _ => .str_int _ _ _ _
  | .str a, .str b, _, _ => .str_str _ _ _ _
open SeqAt in
theorem ne_tup_scal {A : Around} {l : Addr} {items : Array Value} (hl : s.heap.IsTuple l items) (hu : A.units < cLine) {ds : List D} : ∀ (e : D) (y : V) (u : Value), isScal e = true → Rep W e y → RelV y u →
    RcNeAt A s (.ref l) u (!eqD (.tup ds) e) ∧ RcNeAt A s u (.ref l) (!eqD e (.tup ds))
  | .non, _, _, _, rfl, rfl => ⟨.tuple_none hl hu, .none_tuple hl hu⟩
  | .bl _, _, _, _, rfl, rfl => ⟨.tuple_bool _ hl hu, .bool_tuple _ hl hu⟩
  | .int _, _, _, _, rfl, ⟨_, rfl⟩ => ⟨.tuple_int _ _ hl hu, .int_tuple _ _ hl hu⟩
  | .str _, _, _, _, rfl, ⟨_, rfl⟩ => ⟨.tuple_str _ _ hl hu, .str_tuple _ _ hl hu⟩
open SeqAt in
theorem ne_lst_scal {A : Around} {l : Addr} {items : Array Value} (hl : s.heap.IsList l items) (hu : A.units < cLine) {ds : List D} : ∀ (e : D) (y : V) (u : Value), isScal e = true → Rep W e y → RelV y u →
    RcNeAt A s (.ref l) u (!eqD (.lst ds) e) ∧ RcNeAt A s u (.ref l) (!eqD e (.lst ds))
  | .non, _, _, _, rfl, rfl => ⟨.list_none hl hu, .none_list hl hu⟩
  | .bl _, _, _, _, rfl, rfl => ⟨.list_bool _ hl hu, .bool_list _ hl hu⟩
  | .int _, _, _, _, rfl, ⟨_, rfl⟩ => ⟨.list_int _ _ hl hu, .int_list _ _ hl hu⟩
  | .str _, _, _, _, rfl, ⟨_, rfl⟩ => ⟨.list_str _ _ hl hu, .str_list _ _ hl hu⟩
open SeqAt in
theorem ne_rc (I : Inv X pins σ H s) (B : Base X.KW W S H) (n : Nat) (d e : D) (A : Around) (x y : V) (v u : Value) (od : eqOk (n + 1) d = true) (oe : eqOk (n + 1) e = true) (hu : A.units + (n + 1) < cLine) (rd : Rep W d x) (re : Rep W e y) (rx : RelV x v) (ry : RelV y u) : RcNeAt A s v u (!eqD d e) := by
  have hu0 : A.units < cLine := by omega
  have hu1 : A.in1.units + n < cLine := by rw [in1_units]; omega
  by_cases sd : isScal d = true
  · by_cases se : isScal e = true
    · obtain ⟨t, rfl⟩ := sv_of sd rd rx
      obtain ⟨t', rfl⟩ := sv_of se re ry
      exact ne_sv A t t' d e sd se
    · cases e with
      | tup es =>
        obtain ⟨a, vs, us, rfl, rfl, q, r1, pl, t⟩ := B.isTup I re ry
        exact (ne_tup_scal pl hu0 d x v sd rd rx).2
      | lst es =>
        obtain ⟨a, vs, us, rfl, rfl, q, r1, pl, t⟩ := B.isLst I re ry
        exact (ne_lst_scal pl hu0 d x v sd rd rx).2
      | _ => first | exact absurd rfl se | (simp [eqOk] at oe; done)
  · cases d with
    | tup ds =>
      obtain ⟨a, vs, us, rfl, rfl, q, r1, pl, t⟩ := B.isTup I rd rx
      cases e with
      | tup es =>
        obtain ⟨b, vs', us', rfl, rfl, q', r1', pl', t'⟩ := B.isTup I re ry
        have od' : eqOks n ds = true := by simpa [eqOk] using od
        have oe' : eqOks n es = true := by simpa [eqOk] using oe
        have l1 := q.length
        have l2 := q'.length
        have l3 := r1.length
        have l4 := r1'.length
        have z := RcNeAt.tuples (A := A) (e := fun j => eqD (ds.getD j .non) (es.getD j .non)) pl pl' hu0 fun j h1 h2 => by
          have h1' : j < us.length := by simpa using h1
          have h2' : j < us'.length := by simpa using h2
          obtain ⟨x1, p1, p2⟩ := q.vals r1 h1'
          obtain ⟨y1, p3, p4⟩ := q'.vals r1' h2'
          have := (eq_rc I B n _ _ A.in1 x1 y1 us[j] us'[j] (eqOks_get (i := j) od' (by rw [List.getD_eq_getElem?_getD, List.getElem?_eq_getElem (by omega)]; rfl)) (eqOks_get (i := j) oe' (by rw [List.getD_eq_getElem?_getD, List.getElem?_eq_getElem (by omega)]; rfl)) hu1 p1 p3 p2 p4).1
          simpa using this
        have e1 : us.toArray.size = ds.length := by simp; omega
        have e2 : us'.toArray.size = es.length := by simp; omega
        rw [e1, e2] at z
        rw [eqD]
        by_cases hl : ds.length = es.length
        · rw [eqDs_all _ _ hl]
          rw [← hl, Nat.min_self, beq_self_eq_true, Bool.and_true] at z
          exact z
        · rw [eqDs_len hl]
          rw [show (ds.length == es.length) = false by simpa using hl, Bool.and_false] at z
          exact z
      | lst es =>
        obtain ⟨b, vs', us', rfl, rfl, q', r1', pl', t'⟩ := B.isLst I re ry
        exact .tuple_list pl pl' hu0
      | _ => first | exact (ne_tup_scal pl hu0 _ y u rfl re ry).1 | (simp [eqOk] at oe; done)
    | lst ds =>
      obtain ⟨a, vs, us, rfl, rfl, q, r1, pl, t⟩ := B.isLst I rd rx
      cases e with
      | lst es =>
        obtain ⟨b, vs', us', rfl, rfl, q', r1', pl', t'⟩ := B.isLst I re ry
        have od' : eqOks n ds = true := by simpa [eqOk] using od
        have oe' : eqOks n es = true := by simpa [eqOk] using oe
        have l1 := q.length
        have l2 := q'.length
        have l3 := r1.length
        have l4 := r1'.length
        have e1 : us.toArray.size = ds.length := by simp; omega
        have e2 : us'.toArray.size = es.length := by simp; omega
        rw [eqD]
        by_cases hl : ds.length = es.length
        · have z := RcNeAt.lists (A := A) (e := fun j => eqD (ds.getD j .non) (es.getD j .non)) pl pl' (by omega) hu0 fun j h1 h2 => by
            have h1' : j < us.length := by simpa using h1
            have h2' : j < us'.length := by simpa using h2
            obtain ⟨x1, p1, p2⟩ := q.vals r1 h1'
            obtain ⟨y1, p3, p4⟩ := q'.vals r1' h2'
            have := (eq_rc I B n _ _ A.in1 x1 y1 us[j] us'[j] (eqOks_get (i := j) od' (by rw [List.getD_eq_getElem?_getD, List.getElem?_eq_getElem (by omega)]; rfl)) (eqOks_get (i := j) oe' (by rw [List.getD_eq_getElem?_getD, List.getElem?_eq_getElem (by omega)]; rfl)) hu1 p1 p3 p2 p4).1
            simpa using this
          rw [e1] at z
          rw [eqDs_all _ _ hl]
          exact z
        · rw [eqDs_len hl]
          exact RcNeAt.lists_lengths pl pl' (by rw [e1, e2]; simpa using hl) hu0
      | tup es =>
        obtain ⟨b, vs', us', rfl, rfl, q', r1', pl', t'⟩ := B.isTup I re ry
        exact .list_tuple pl pl' hu0
      | _ => first | exact (ne_lst_scal pl hu0 _ y u rfl re ry).1 | (simp [eqOk] at oe; done)
    | _ => first | exact absurd rfl sd | (simp [eqOk] at od; done)
end
end DL


/-! DL2: operators over data -/
namespace DL
open PySem L2 PyProof.Rows

/-! ### new tuples, told by their objects -/
abbrev tupOb (its : List Value) : Obj := { cls := .type "tuple", data := .seq its.toArray }
theorem tupOb_ok {P : Program} {w : World} {H : Hp} {h : Heap} {a : Addr} {its : List Value} {xs : List V} (e : h.get? a = some (tupOb its)) (z : xs.length ≤ sizeLine) (r : Vals xs its) : ObjOk P w H h a (.frz (tupOb its) (.tup xs)) :=
  ⟨e, z, its, r, ⟨_, e, rfl, _, rfl⟩⟩
section
variable {X : Cx}
/-- t + u -/
def rCatZ (K : Fr) : R2 := fun x y H Q => ∃ a b xs ys, x = .ref a ∧ y = .ref b ∧ SqT K H a xs ∧ SqT K H b ys ∧ xs.length + ys.length ≤ sizeLine ∧
  (xs = [] → Q (.ref b) H) ∧ (xs ≠ [] → ys = [] → Q (.ref a) H) ∧ (xs ≠ [] → ys ≠ [] → ∀ p its, H p = none → Q (.ref p) (upd H p (.frz (tupOb its) (.tup (xs ++ ys)))))
theorem op_catZ : OpR X (binaryOp .Add) (rCatZ X.KW) := by
  intro pins s σ H x y v u Q I rx ry h
  obtain ⟨a, b, xs, ys, rfl, rfl, ha, hb, hz, q0, q1, q2⟩ := h
  by_cases hx : xs = []
  · subst hx
    cases rx
    cases ry
    obtain ⟨its, r1, p1, _⟩ := I.tuple ha
    obtain ⟨its2, r2, p2, _⟩ := I.tuple hb
    cases r1
    exact cat_tup0 p1 p2 ⟨.ref b, H, I, rfl, q0 rfl⟩
  · cases rx
    cases ry
    obtain ⟨its, r1, p1, _⟩ := I.tuple ha
    obtain ⟨its2, r2, p2, _⟩ := I.tuple hb
    refine HT.cat_tup p1 p2 (fun z => hx (r1.nil_iff.mp z)) (fun z => ⟨.ref a, H, I, rfl, q1 hx (r2.nil_iff.mp z)⟩) (fun z => ?_) (by rw [← r1.length, ← r2.length]; exact hz)
    refine ⟨.ref s.heap.objs.size, _, I.laid (t' := s.toks) (o := .frz (tupOb (its ++ its2)) (.tup (xs ++ ys))) (fun b ob q => Heap.get?_push_of_some _ q) (Nat.le_refl _) ?_, rfl, q2 hx (fun w => z (r2.nil_iff.mpr w)) _ _ (I.hok.fresh (Nat.le_refl _))⟩
    exact tupOb_ok (Heap.get?_push_size _ rfl) (by rw [List.length_append]; exact hz) (r1.append r2)
end
def rD (K : Fr) (g : D → D → Option D) : R2 := fun x y H Q => ∃ W S dx dy z, Base K W S H ∧ Rep W dx x ∧ Rep W dy y ∧ g dx dy = some z ∧ ∀ W' w H', Stp W W' H H' → Base K W' S H' → Rep W' z w → Q w H'
def rU1 (K : Fr) (g : D → Option D) : V → Hp → VK → Prop := fun x H Q => ∃ W S dx z, Base K W S H ∧ Rep W dx x ∧ g dx = some z ∧ ∀ W' w H', Stp W W' H H' → Base K W' S H' → Rep W' z w → Q w H'
def rDc (K : Fr) (g : List D → Option D) : List V → Hp → VK → Prop := fun xs H Q => ∃ W S ds z, Base K W S H ∧ Reps W ds xs ∧ g ds = some z ∧ ∀ W' w H', Stp W W' H H' → Base K W' S H' → Rep W' z w → Q w H'

/-! ### the readings, lifted -/
def d2 (g : D → D → Option D) (da db : DE) : DE := fun ρ S => (da ρ S).bind fun p => (db ρ p.2).bind fun q => (g p.1 q.1).map fun z => (z, q.2)
def d1 (g : D → Option D) (da : DE) : DE := fun ρ S => (da ρ S).bind fun p => (g p.1).map fun z => (z, p.2)
def dCall (g : List D → Option D) (da : DA) : DE := fun ρ S => (da ρ S).bind fun p => (g p.1).map fun z => (z, p.2)
section
variable {X : Cx} {a b c e : Expr} {es : List Expr} {da db dc : DE} {dt dt' : DT} {dl : DA} {pos : Pos}
theorem bindS {α β : Type} {o : Option α} {f : α → Option β} {z : β} (h : o.bind f = some z) : ∃ x, o = some x ∧ f x = some z := Option.bind_eq_some_iff.mp h
theorem mapS {α β : Type} {o : Option α} {f : α → β} {z : β} (h : o.map f = some z) : ∃ x, o = some x ∧ f x = z := Option.map_eq_some_iff.mp h
theorem lift2 {g : D → D → Option D} (h : ∀ {ta tb : TE}, PE X a ta → PE X b tb → PE X e (tOp (rD X.KW g) ta tb)) (ha : PE' X a da) (hb : PE' X b db) : PE' X e (d2 g da db) := PE.imp (h ha hb) fun σ H Q => by
  rintro ⟨W, ρ, S, r, S', R, hd, k⟩
  obtain ⟨⟨x, S1⟩, e1, hd⟩ := bindS hd
  obtain ⟨⟨y, S2⟩, e2, hd⟩ := bindS hd
  obtain ⟨z, e3, hd⟩ := mapS hd
  cases hd
  refine ⟨W, ρ, S, x, S1, R, e1, fun W1 v H1 s1 R1 r1 => ⟨W1, ρ, S1, y, S2, R1, e2, fun W2 u H2 s2 R2 r2 => ?_⟩⟩
  exact ⟨W2, S2, x, y, _, R2.base, r1.mono s2.le, r2, e3, fun W3 w H3 s3 B3 r3 => k W3 w H3 ((s1.trans s2).trans s3) ⟨B3, R2.env.mono s3.le⟩ r3⟩
theorem lift1 {g : D → Option D} (h : ∀ {ta : TE}, PE X a ta → PE X e (tUn (rU1 X.KW g) ta)) (ha : PE' X a da) : PE' X e (d1 g da) := PE.imp (h ha) fun σ H Q => by
  rintro ⟨W, ρ, S, r, S', R, hd, k⟩
  obtain ⟨⟨x, S1⟩, e1, hd⟩ := bindS hd
  obtain ⟨z, e3, hd⟩ := mapS hd
  cases hd
  refine ⟨W, ρ, S, x, S1, R, e1, fun W1 v H1 s1 R1 r1 => ?_⟩
  exact ⟨W1, S1, x, _, R1.base, r1, e3, fun W3 w H3 s3 B3 r3 => k W3 w H3 (s1.trans s3) ⟨B3, R1.env.mono s3.le⟩ r3⟩
theorem liftCall {g : List D → Option D} (h : ∀ {t : TA}, PA X es t → PE X e (tCB (rDc X.KW g) t)) (ha : PA' X es dl) : PE' X e (dCall g dl) := PE.imp (h ha) fun σ H Q => by
  rintro ⟨W, ρ, S, r, S', R, hd, k⟩
  obtain ⟨⟨x, S1⟩, e1, hd⟩ := bindS hd
  obtain ⟨z, e3, hd⟩ := mapS hd
  cases hd
  refine ⟨W, ρ, S, x, S1, R, e1, fun W1 v H1 s1 R1 r1 => ?_⟩
  exact ⟨W1, S1, x, _, R1.base, r1, e3, fun W3 w H3 s3 B3 r3 => k W3 w H3 (s1.trans s3) ⟨B3, R1.env.mono s3.le⟩ r3⟩
end

/-! ### arithmetic -/
def mulOk (i j : Int) : Bool := decide (i.natAbs.log2 + j.natAbs.log2 < 67108864)
theorem mulOk_ok {i j : Int} (h : mulOk i j = true) : IntMulOk i j := by
  have b : ∀ x : Int, Builtin.Int.intBits x ≤ x.natAbs.log2 + 1 := fun x => by
    unfold Builtin.Int.intBits
    split <;> omega
  have h1 := b i
  have h2 := b j
  have h3 : i.natAbs.log2 + j.natAbs.log2 < 67108864 := of_decide_eq_true h
  have e : bitsLine = 134217728 := by decide
  unfold IntMulOk
  intro z
  rw [Bool.and_eq_true] at z
  have z2 := z.2
  unfold Builtin.Int.intTooBig at z2
  have z3 := of_decide_eq_true z2
  rw [e] at z3
  omega
def addD : D → D → Option D
  | .int i, .int j => some (.int (i + j))
  | .str x, .str y => if x.length + y.length ≤ sizeLine then some (.str (x ++ y)) else none
  | .lst x, .lst y => if x.length + y.length ≤ sizeLine then some (.lst (x ++ y)) else none
  | .tup x, .tup y => if x.length + y.length ≤ sizeLine then some (.tup (x ++ y)) else none
  | _, _ => none
def subD : D → D → Option D
  | .int i, .int j => some (.int (i - j))
  | _, _ => none
def mulD : D → D → Option D
  | .int i, .int j => if mulOk i j then some (.int (i * j)) else none
  | _, _ => none
def fdivD : D → D → Option D
  | .int i, .int j => if j ≠ 0 ∧ j.natAbs.log2 < 9000 then some (.int (i.fdiv j)) else none
  | _, _ => none
def modD : D → D → Option D
  | .int i, .int j => if j ≠ 0 then some (.int (i.fmod j)) else none
  | _, _ => none
def powD : D → D → Option D
  | .int i, .int j => if 0 ≤ j ∧ j ≤ 1000000 ∧ i.natAbs < 2 ^ 64 then some (.int (i ^ j.toNat)) else none
  | _, _ => none
def shlD : D → D → Option D
  | .int i, .int j => if 0 ≤ j ∧ j ≤ 1000000 ∧ i.natAbs < 2 ^ 64 then some (.int (i * 2 ^ j.toNat)) else none
  | _, _ => none
def bandD : D → D → Option D
  | .int i, .int j => some (.int (Builtin.bitAnd i j))
  | _, _ => none
section
variable {X : Cx} {a b c e : Expr} {es : List Expr} {da db dc : DE} {dt dt' : DT} {dl : DA} {pos : Pos}
/-- an operator on two ints -/
theorem opInt {f : Value → Value → Sem Value} {C : Int → Int → Prop} {g : Int → Int → V} {gd : D → D → Option D} (ho : OpR X f (rI C g)) (hg : ∀ x y z, gd x y = some z → ∃ i j, x = .int i ∧ y = .int j ∧ C i j ∧ (∀ W, Rep W z (g i j))) : OpR X f (rD X.KW gd) := by
  intro pins s σ H x y v u Q I rx ry ⟨W, S, dx, dy, z, B, r1, r2, hd, k⟩
  obtain ⟨i, j, rfl, rfl, hc, hr⟩ := hg _ _ _ hd
  obtain rfl : x = .int i := r1
  obtain rfl : y = .int j := r2
  exact ho pins s σ H _ _ v u Q I rx ry ⟨i, j, rfl, rfl, hc, k W _ H (.refl _ _) B (hr W)⟩
theorem opInt0 {f : Value → Value → Sem Value} {g : Int → Int → V} {gd : D → D → Option D} (ho : OpR X f (rI0 g)) (hg : ∀ x y z, gd x y = some z → ∃ i j, x = .int i ∧ y = .int j ∧ (∀ W, Rep W z (g i j))) : OpR X f (rD X.KW gd) := by
  intro pins s σ H x y v u Q I rx ry ⟨W, S, dx, dy, z, B, r1, r2, hd, k⟩
  obtain ⟨i, j, rfl, rfl, hr⟩ := hg _ _ _ hd
  obtain rfl : x = .int i := r1
  obtain rfl : y = .int j := r2
  exact ho pins s σ H _ _ v u Q I rx ry ⟨i, j, rfl, rfl, k W _ H (.refl _ _) B (hr W)⟩
theorem od_sub : OpR X (binaryOp .Sub) (rD X.KW subD) := opInt0 op_sub fun x y z h => by
  cases x <;> cases y <;> simp [subD] at h
  subst h
  exact ⟨_, _, rfl, rfl, fun _ => rfl⟩
theorem od_mul : OpR X (binaryOp .Mult) (rD X.KW mulD) := opInt (C := fun i j => mulOk i j = true) (g := fun i j => .int (i * j)) (opI fun _ _ _ _ _ _ _ hc q => mul_int q (mulOk_ok hc)) fun x y z h => by
  cases x <;> cases y <;> simp [mulD] at h
  obtain ⟨h1, rfl⟩ := h
  exact ⟨_, _, rfl, rfl, h1, fun _ => rfl⟩
theorem od_fdiv : OpR X (binaryOp .FloorDiv) (rD X.KW fdivD) := opInt (C := fun _ j => j ≠ 0 ∧ j.natAbs.log2 < 9000) (g := fun i j => .int (i.fdiv j)) (opI fun _ _ _ _ _ _ _ hc q => floordiv_int hc.1 q (.inl (PyProof.noPylong_of_log2 hc.2))) fun x y z h => by
  cases x <;> cases y <;> simp only [fdivD, Option.ite_none_right_eq_some, reduceCtorEq] at h
  obtain ⟨h1, h2⟩ := h
  cases h2
  exact ⟨_, _, rfl, rfl, h1, fun _ => rfl⟩
theorem od_mod : OpR X (binaryOp .Mod) (rD X.KW modD) := opInt op_modN fun x y z h => by
  cases x <;> cases y <;> simp only [modD, Option.ite_none_right_eq_some, reduceCtorEq] at h
  obtain ⟨h1, h2⟩ := h
  cases h2
  exact ⟨_, _, rfl, rfl, h1, fun _ => rfl⟩
theorem od_pow : OpR X (binaryOp .Pow) (rD X.KW powD) := opInt op_pow fun x y z h => by
  cases x <;> cases y <;> simp only [powD, Option.ite_none_right_eq_some, reduceCtorEq] at h
  obtain ⟨h1, h2⟩ := h
  cases h2
  exact ⟨_, _, rfl, rfl, h1, fun _ => rfl⟩
theorem od_shl : OpR X (binaryOp .LShift) (rD X.KW shlD) := opInt op_shl fun x y z h => by
  cases x <;> cases y <;> simp only [shlD, Option.ite_none_right_eq_some, reduceCtorEq] at h
  obtain ⟨h1, h2⟩ := h
  cases h2
  exact ⟨_, _, rfl, rfl, h1, fun _ => rfl⟩
theorem od_band : OpR X (binaryOp .BitAnd) (rD X.KW bandD) := opInt0 op_and fun x y z h => by
  cases x <;> cases y <;> simp [bandD] at h
  subst h
  exact ⟨_, _, rfl, rfl, fun _ => rfl⟩
theorem od_add : OpR X (binaryOp .Add) (rD X.KW addD) := by
  intro pins s σ H x y v u Q I rx ry ⟨W, S, dx, dy, z, B, r1, r2, hd, k⟩
  cases dx with
  | int i =>
    cases dy with
    | int j =>
      cases hd
      cases r1
      cases r2
      exact op_add pins s σ H _ _ v u Q I rx ry ⟨i, j, rfl, rfl, k W _ H (.refl _ _) B rfl⟩
    | _ => cases hd
  | str i =>
    cases dy with
    | str j =>
      simp only [addD, Option.ite_none_right_eq_some] at hd
      obtain ⟨hl, hd⟩ := hd
      cases hd
      cases r1
      cases r2
      exact op_add_str pins s σ H _ _ v u Q I rx ry ⟨i, j, rfl, rfl, hl, k W _ H (.refl _ _) B rfl⟩
    | _ => cases hd
  | lst xs =>
    cases dy with
    | lst ys =>
      simp only [addD, Option.ite_none_right_eq_some] at hd
      obtain ⟨hl, hd⟩ := hd
      cases hd
      obtain ⟨p, vs, rfl, t1, q1⟩ := r1
      obtain ⟨q, us, rfl, t2, q2⟩ := r2
      refine op_cat pins s σ H _ _ v u Q I rx ry ⟨p, q, vs, us, rfl, rfl, B.lst t1, B.lst t2, by rw [q1.length, q2.length]; exact hl, fun n hn => ?_⟩
      obtain ⟨W', s', B', t', _⟩ := B.laid (vs := vs ++ us) hn
      exact k W' _ _ s' B' ⟨n, _, rfl, t', (q1.append q2).mono s'.le _⟩
    | _ => cases hd
  | tup xs =>
    cases dy with
    | tup ys =>
      simp only [addD, Option.ite_none_right_eq_some] at hd
      obtain ⟨hl, hd⟩ := hd
      cases hd
      obtain ⟨p, vs, rfl, t1, q1⟩ := r1
      obtain ⟨q, us, rfl, t2, q2⟩ := r2
      refine op_catZ pins s σ H _ _ v u Q I rx ry ⟨p, q, vs, us, rfl, rfl, B.tup t1, B.tup t2, by rw [q1.length, q2.length]; exact hl, fun z => ?_, fun _ z => ?_, fun _ _ n its hn => ?_⟩
      · subst z
        have : xs = [] := by have := q1.length; simpa using this.symm
        subst this
        exact k W _ H (.refl _ _) B ⟨q, us, rfl, t2, q2⟩
      · subst z
        have : ys = [] := by have := q2.length; simpa using this.symm
        subst this
        exact k W _ H (.refl _ _) B ⟨p, vs, rfl, t1, by simpa using q1⟩
      · obtain ⟨W', s', B', t', _⟩ := B.laidT (x := tupOb its) (vs := vs ++ us) hn rfl
        exact k W' _ _ s' B' ⟨n, _, rfl, t', (q1.append q2).mono s'.le _⟩
    | _ => cases hd
  | _ => cases hd
theorem dpe_add (ha : PE' X a da) (hb : PE' X b db) : PE' X (.BinOp a .Add b pos) (d2 addD da db) := lift2 (fun h1 h2 => pe_op od_add h1 h2) ha hb
theorem dpe_sub (ha : PE' X a da) (hb : PE' X b db) : PE' X (.BinOp a .Sub b pos) (d2 subD da db) := lift2 (fun h1 h2 => pe_op od_sub h1 h2) ha hb
theorem dpe_mul (ha : PE' X a da) (hb : PE' X b db) : PE' X (.BinOp a .Mult b pos) (d2 mulD da db) := lift2 (fun h1 h2 => pe_op od_mul h1 h2) ha hb
theorem dpe_fdiv (ha : PE' X a da) (hb : PE' X b db) : PE' X (.BinOp a .FloorDiv b pos) (d2 fdivD da db) := lift2 (fun h1 h2 => pe_op od_fdiv h1 h2) ha hb
theorem dpe_mod (ha : PE' X a da) (hb : PE' X b db) : PE' X (.BinOp a .Mod b pos) (d2 modD da db) := lift2 (fun h1 h2 => pe_op od_mod h1 h2) ha hb
theorem dpe_pow (ha : PE' X a da) (hb : PE' X b db) : PE' X (.BinOp a .Pow b pos) (d2 powD da db) := lift2 (fun h1 h2 => pe_op od_pow h1 h2) ha hb
theorem dpe_shl (ha : PE' X a da) (hb : PE' X b db) : PE' X (.BinOp a .LShift b pos) (d2 shlD da db) := lift2 (fun h1 h2 => pe_op od_shl h1 h2) ha hb
theorem dpe_band (ha : PE' X a da) (hb : PE' X b db) : PE' X (.BinOp a .BitAnd b pos) (d2 bandD da db) := lift2 (fun h1 h2 => pe_op od_band h1 h2) ha hb
def negD : D → Option D
  | .int i => some (.int (-i))
  | _ => none
theorem dpe_neg (ha : PE' X a da) : PE' X (.UnaryOp .USub a pos) (d1 negD da) := lift1 (fun h => pe_un (fun pins s σ H x v Q I rx ⟨W, S, dx, z, B, r1, hd, k⟩ => by
  cases dx with
  | int i =>
    cases hd
    cases r1
    exact un_neg pins s σ H _ v Q I rx ⟨i, rfl, k W _ H (.refl _ _) B rfl⟩
  | _ => cases hd) h) ha
end
end DL


/-! DL3: comparisons, tests, subscripts, calls of built-ins over data -/
namespace DL
open PySem L2 PyProof.Rows

def eqO (x y : D) : Option D := if eqOk 60 x = true ∧ eqOk 60 y = true then some (.bl (eqD x y)) else none
def neO (x y : D) : Option D := if eqOk 60 x = true ∧ eqOk 60 y = true then some (.bl (!eqD x y)) else none
def ltO : D → D → Option D
  | .int i, .int j => some (.bl (decide (i < j)))
  | .str i, .str j => some (.bl (decide (i.cps.toList < j.cps.toList)))
  | _, _ => none
def leO : D → D → Option D
  | .int i, .int j => some (.bl (decide (i ≤ j)))
  | .str i, .str j => some (.bl (!decide (j.cps.toList < i.cps.toList)))
  | _, _ => none
def gtO : D → D → Option D
  | .int i, .int j => some (.bl (decide (j < i)))
  | .str i, .str j => some (.bl (decide (j.cps.toList < i.cps.toList)))
  | _, _ => none
def geO : D → D → Option D
  | .int i, .int j => some (.bl (decide (j ≤ i)))
  | .str i, .str j => some (.bl (!decide (i.cps.toList < j.cps.toList)))
  | _, _ => none
def isNon : D → Bool
  | .non => true
  | _ => false
def isO (x y : D) : Option D := if isNon y then some (.bl (isNon x)) else none
def isnO (x y : D) : Option D := if isNon y then some (.bl (!isNon x)) else none
def strIn (x y : Str) : Bool := match x.cps.toList with
  | [c] => decide (c ∈ y.cps.toList)
  | _ => !(Builtin.Str.occurrences y x 0 y.length 1).isEmpty
def inB (x y : D) : Option Bool := match y with
  | .str t => match x with
    | .str z => some (strIn z t)
    | _ => none
  | y => match seqD y with
    | some ds => if eqOk 60 x = true ∧ eqOks 60 ds = true then some (ds.any fun z => eqD z x) else none
    | none => none
def inO (x y : D) : Option D := (inB x y).map .bl
def ninO (x y : D) : Option D := (inB x y).map fun b => .bl (!b)
section
variable {X : Cx} {a b c e : Expr} {es : List Expr} {da db dc : DE} {dt dt' : DT} {dl : DA} {pos : Pos}
open SeqAt in
theorem od_eq (hu : X.A.units + 64 < cLine) : OpR X (compareOp .Eq) (rD X.KW eqO) := by
  intro pins s σ H x y v u Q I rx ry ⟨W, S, dx, dy, z, B, r1, r2, hd, k⟩
  simp only [eqO, Option.ite_none_right_eq_some] at hd
  obtain ⟨⟨h1, h2⟩, hd⟩ := hd
  cases hd
  exact (eq_rc I B 60 dx dy X.A x y v u h1 h2 (by omega) r1 r2 rx ry).2 _ _ _ _ ⟨.bl _, H, I, rfl, k W _ H (.refl _ _) B rfl⟩
open SeqAt in
theorem od_ne (hu : X.A.units + 64 < cLine) : OpR X (compareOp .NotEq) (rD X.KW neO) := by
  intro pins s σ H x y v u Q I rx ry ⟨W, S, dx, dy, z, B, r1, r2, hd, k⟩
  simp only [neO, Option.ite_none_right_eq_some] at hd
  obtain ⟨⟨h1, h2⟩, hd⟩ := hd
  cases hd
  exact ne_rc I B 59 dx dy X.A x y v u h1 h2 (by omega) r1 r2 rx ry _ _ _ _ ⟨.bl _, H, I, rfl, k W _ H (.refl _ _) B rfl⟩
theorem od_lt : OpR X (compareOp .Lt) (rD X.KW ltO) := by
  intro pins s σ H x y v u Q I rx ry ⟨W, S, dx, dy, z, B, r1, r2, hd, k⟩
  cases dx <;> cases dy <;> simp only [ltO, reduceCtorEq] at hd
  · cases hd; cases r1; cases r2; exact op_lt pins s σ H _ _ v u Q I rx ry ⟨_, _, rfl, rfl, k W _ H (.refl _ _) B rfl⟩
  · cases hd; cases r1; cases r2; exact op_lt_str pins s σ H _ _ v u Q I rx ry ⟨_, _, rfl, rfl, k W _ H (.refl _ _) B rfl⟩
theorem od_le : OpR X (compareOp .LtE) (rD X.KW leO) := by
  intro pins s σ H x y v u Q I rx ry ⟨W, S, dx, dy, z, B, r1, r2, hd, k⟩
  cases dx <;> cases dy <;> simp only [leO, reduceCtorEq] at hd
  · cases hd; cases r1; cases r2; exact op_le pins s σ H _ _ v u Q I rx ry ⟨_, _, rfl, rfl, k W _ H (.refl _ _) B rfl⟩
  · cases hd; cases r1; cases r2; exact op_le_str pins s σ H _ _ v u Q I rx ry ⟨_, _, rfl, rfl, k W _ H (.refl _ _) B rfl⟩
theorem od_gt : OpR X (compareOp .Gt) (rD X.KW gtO) := by
  intro pins s σ H x y v u Q I rx ry ⟨W, S, dx, dy, z, B, r1, r2, hd, k⟩
  cases dx <;> cases dy <;> simp only [gtO, reduceCtorEq] at hd
  · cases hd; cases r1; cases r2; exact op_gt pins s σ H _ _ v u Q I rx ry ⟨_, _, rfl, rfl, k W _ H (.refl _ _) B rfl⟩
  · cases hd; cases r1; cases r2; exact op_gt_str pins s σ H _ _ v u Q I rx ry ⟨_, _, rfl, rfl, k W _ H (.refl _ _) B rfl⟩
theorem od_ge : OpR X (compareOp .GtE) (rD X.KW geO) := by
  intro pins s σ H x y v u Q I rx ry ⟨W, S, dx, dy, z, B, r1, r2, hd, k⟩
  cases dx <;> cases dy <;> simp only [geO, reduceCtorEq] at hd
  · cases hd; cases r1; cases r2; exact op_ge pins s σ H _ _ v u Q I rx ry ⟨_, _, rfl, rfl, k W _ H (.refl _ _) B rfl⟩
  · cases hd; cases r1; cases r2; exact op_ge_str pins s σ H _ _ v u Q I rx ry ⟨_, _, rfl, rfl, k W _ H (.refl _ _) B rfl⟩
theorem isNon_of {W : Wd} {d : D} {x : V} (r : Rep W d x) : decide (x = .non) = isNon d := by
  cases d with
  | non => obtain rfl : x = .non := r; rfl
  | bl b => obtain rfl : x = .bl b := r; rfl
  | int b => obtain rfl : x = .int b := r; rfl
  | str b => obtain rfl : x = .str b := r; rfl
  | ref i => obtain ⟨a, _, rfl⟩ := r; rfl
  | tup i => obtain ⟨a, _, rfl, _⟩ := r; rfl
  | lst i => obtain ⟨a, _, rfl, _⟩ := r; rfl
  | rol i => obtain ⟨a, _, rfl, _⟩ := r; rfl
  | dcu i j => obtain ⟨a, ho, us, ws, rfl, _⟩ := r; simp [isNon]
  | dct i j => obtain ⟨a, o, ho, us, ws, rfl, _⟩ := r; simp [isNon]
theorem od_is : OpR X (compareOp .Is) (rD X.KW isO) := by
  intro pins s σ H x y v u Q I rx ry ⟨W, S, dx, dy, z, B, r1, r2, hd, k⟩
  cases dy <;> simp only [isO, isNon, if_true, Bool.false_eq_true, if_false, reduceCtorEq] at hd
  cases hd
  obtain rfl : y = .non := r2
  exact op_isN pins s σ H _ _ v u Q I rx ry ⟨rfl, by rw [isNon_of r1]; exact k W _ H (.refl _ _) B rfl⟩
theorem od_isn : OpR X (compareOp .IsNot) (rD X.KW isnO) := by
  intro pins s σ H x y v u Q I rx ry ⟨W, S, dx, dy, z, B, r1, r2, hd, k⟩
  cases dy <;> simp only [isnO, isNon, if_true, Bool.false_eq_true, if_false, reduceCtorEq] at hd
  cases hd
  obtain rfl : y = .non := r2
  exact op_notN pins s σ H _ _ v u Q I rx ry ⟨rfl, by rw [isNon_of r1]; exact k W _ H (.refl _ _) B rfl⟩

/-- an equality read off the Value alone -/
theorem pick_eq {W : Wd} {ds : List D} {vs : List V} {us : List Value} (n : Nat) (dx : D) (hr : Reps W ds vs) (hv : Vals vs us) (ok : eqOks n ds = true) :
    ∃ f : Value → Bool, (∀ u, u ∈ us → ∃ z x, z ∈ ds ∧ Rep W z x ∧ RelV x u ∧ f u = eqD z dx) ∧ us.any f = ds.any fun z => eqD z dx := by
  classical
  refine ⟨fun u => if h : ∃ z, ∃ x, z ∈ ds ∧ Rep W z x ∧ RelV x u then eqD h.choose dx else false, fun u hu => ?_, ?_⟩
  · obtain ⟨j, hj⟩ := List.getElem?_of_mem hu
    have l1 := hr.length
    have l2 := hv.length
    have hlt := (List.getElem?_eq_some_iff.mp hj).1
    obtain ⟨x, p1, p2⟩ := hr.vals hv hlt
    have e : us[j] = u := by
      have := List.getElem?_eq_getElem hlt
      rw [hj] at this
      exact (Option.some.inj this).symm
    rw [e] at p2
    have h : ∃ z, ∃ x, z ∈ ds ∧ Rep W z x ∧ RelV x u := ⟨_, x, by rw [List.getD_eq_getElem?_getD, List.getElem?_eq_getElem (by omega)]; exact List.getElem_mem _, p1, p2⟩
    refine ⟨h.choose, h.choose_spec.choose, h.choose_spec.choose_spec.1, h.choose_spec.choose_spec.2.1, h.choose_spec.choose_spec.2.2, ?_⟩
    show (if h : ∃ z, ∃ x, z ∈ ds ∧ Rep W z x ∧ RelV x u then eqD h.choose dx else false) = _
    rw [dif_pos h]
  · have key : ∀ (z : D) (u : Value) (x : V), z ∈ ds → Rep W z x → RelV x u → (if h : ∃ z, ∃ x, z ∈ ds ∧ Rep W z x ∧ RelV x u then eqD h.choose dx else false) = eqD z dx := fun z u x hz r1 r2 => by
      have h : ∃ z, ∃ x, z ∈ ds ∧ Rep W z x ∧ RelV x u := ⟨z, x, hz, r1, r2⟩
      rw [dif_pos h]
      obtain ⟨x', hz', r1', r2'⟩ := h.choose_spec
      have okm : ∀ z, z ∈ ds → eqOk n z = true := fun z hz => by
        obtain ⟨j, hj⟩ := List.getElem?_of_mem hz
        exact eqOks_get ok hj
      rw [r2'.inj r2] at r1'
      rw [Rep.inj n _ _ (okm _ hz') (okm _ hz) r1' r1]
    have go : ∀ (es : List D) (ws : List V) (xs : List Value), Reps W es ws → Vals ws xs → (∀ z, z ∈ es → z ∈ ds) →
        (xs.any fun u => if h : ∃ z, ∃ x, z ∈ ds ∧ Rep W z x ∧ RelV x u then eqD h.choose dx else false) = es.any fun z => eqD z dx := by
      intro es
      induction es with
      | nil =>
        intro ws xs h1 h2 _
        obtain rfl : ws = [] := h1
        cases h2
        rfl
      | cons z es ih =>
        intro ws xs h1 h2 hm
        obtain ⟨w, r, rfl, h3, h4⟩ := h1
        cases h2 with
        | cons h5 h6 =>
          rw [List.any_cons, List.any_cons, ih _ _ h4 h6 fun z hz => hm z (List.mem_cons_of_mem _ hz), key z _ _ (hm z List.mem_cons_self) h3 h5]
    exact go ds vs us hr hv fun _ h => h
theorem str_one {x : Str} {c : Nat} (h : x.cps.toList = [c]) : x = ⟨#[c]⟩ := by
  obtain ⟨cps⟩ := x
  have : cps = #[c] := by
    apply Array.toList_inj.mp
    simpa using h
  rw [this]
open SeqAt in
theorem od_inB (hu : X.A.units + 64 < cLine) {pins : List (Addr × Obj)} {s : Shared} {σ : L2.St} {H : Hp} {x y : V} {v u : Value} {Q : VK} {W : Wd} {S : Sh} {dx dy : D} {b : Bool} (I : Inv X pins σ H s) (rx : RelV x v) (ry : RelV y u)
    (B : Base X.KW W S H) (r1 : Rep W dx x) (r2 : Rep W dy y) (h : inB dx dy = some b) :
    (Q (.bl b) H → wpAny (model X.prog X.w) X.A (compareOp .In v u) (EP X pins σ Q) X.xe s) ∧ (Q (.bl (!b)) H → wpAny (model X.prog X.w) X.A (compareOp .NotIn v u) (EP X pins σ Q) X.xe s) := by
  by_cases hs : ∃ t, dy = .str t
  · obtain ⟨t, rfl⟩ := hs
    cases dx with
    | str z =>
      simp only [inB, Option.some.injEq] at h
      subst h
      cases r1
      cases r2
      unfold strIn
      split
      · rename_i c hc
        rw [str_one hc] at rx
        exact ⟨fun q => op_in_sign pins s σ H _ _ v u Q I rx ry ⟨_, _, rfl, rfl, q⟩, fun q => op_notIn_sign pins s σ H _ _ v u Q I rx ry ⟨_, _, rfl, rfl, q⟩⟩
      · exact ⟨fun q => op_in_str pins s σ H _ _ v u Q I rx ry ⟨_, _, rfl, rfl, q⟩, fun q => op_notIn_str pins s σ H _ _ v u Q I rx ry ⟨_, _, rfl, rfl, q⟩⟩
    | _ => cases h
  · obtain ⟨ds, hq, h1, h2, rfl⟩ : ∃ ds, seqD dy = some ds ∧ eqOk 60 dx = true ∧ eqOks 60 ds = true ∧ b = ds.any fun z => eqD z dx := by
      cases dy with
      | str t => exact absurd ⟨t, rfl⟩ hs
      | lst ds =>
        simp only [inB, seqD, Option.ite_none_right_eq_some, Option.some.injEq] at h
        exact ⟨ds, rfl, h.1.1, h.1.2, h.2.symm⟩
      | rol ds =>
        simp only [inB, seqD, Option.ite_none_right_eq_some, Option.some.injEq] at h
        exact ⟨ds, rfl, h.1.1, h.1.2, h.2.symm⟩
      | tup ds =>
        simp only [inB, seqD, Option.ite_none_right_eq_some, Option.some.injEq] at h
        exact ⟨ds, rfl, h.1.1, h.1.2, h.2.symm⟩
      | _ => cases h
    obtain ⟨a, vs, rfl, hseq, q⟩ := B.seq r2 hq
    obtain rfl : u = Value.ref a := ry
    have eqs : ∀ us : List Value, Vals vs us → ∃ f : Value → Bool, (∀ w, w ∈ us.toArray → EqAt X.A.in1 s w v (f w)) ∧ us.toArray.any f = ds.any fun z => eqD z dx := fun us hv => by
      obtain ⟨f, f1, f2⟩ := pick_eq 60 dx q hv h2
      refine ⟨f, fun w hw => ?_, by simpa using f2⟩
      obtain ⟨z, xz, m1, m2, m3, m4⟩ := f1 w (by simpa using hw)
      rw [m4]
      obtain ⟨j, hj⟩ := List.getElem?_of_mem m1
      exact (eq_rc I B 60 z dx X.A.in1 xz x w v (eqOks_get h2 hj) h1 (by rw [in1_units]; omega) m2 r1 m3 rx).1
    rcases hseq with hseq | hseq
    · obtain ⟨us, hv, pl, _⟩ := I.list hseq
      obtain ⟨f, f1, f2⟩ := eqs us hv
      exact ⟨fun q => in_listAt f pl.isList f1 ⟨.bl _, H, I, rfl, by rw [f2]; exact q⟩, fun q => notIn_listAt f pl.isList f1 ⟨.bl _, H, I, rfl, by rw [f2]; exact q⟩⟩
    · obtain ⟨us, hv, pl, _⟩ := I.tuple hseq
      obtain ⟨f, f1, f2⟩ := eqs us hv
      exact ⟨fun q => in_tupleAt f pl f1 ⟨.bl _, H, I, rfl, by rw [f2]; exact q⟩, fun q => notIn_tupleAt f pl f1 ⟨.bl _, H, I, rfl, by rw [f2]; exact q⟩⟩
theorem od_in (hu : X.A.units + 64 < cLine) : OpR X (compareOp .In) (rD X.KW inO) := by
  intro pins s σ H x y v u Q I rx ry ⟨W, S, dx, dy, z, B, r1, r2, hd, k⟩
  obtain ⟨b, h1, rfl⟩ := mapS hd
  exact (od_inB hu I rx ry B r1 r2 h1).1 (k W _ H (.refl _ _) B rfl)
theorem od_nin (hu : X.A.units + 64 < cLine) : OpR X (compareOp .NotIn) (rD X.KW ninO) := by
  intro pins s σ H x y v u Q I rx ry ⟨W, S, dx, dy, z, B, r1, r2, hd, k⟩
  obtain ⟨b, h1, rfl⟩ := mapS hd
  exact (od_inB hu I rx ry B r1 r2 h1).2 (k W _ H (.refl _ _) B rfl)
end
end DL


/-! DL4: tests, displays, subscripts -/
namespace DL
open PySem L2 PyProof.Rows

section
variable {X : Cx} {a b c e : Expr} {es : List Expr} {da db dc : DE} {dt dt' dt2 : DT} {dl : DA} {pos : Pos}
theorem dpe_cmp {op : CmpOp} {g : D → D → Option D} (ho : OpR X (compareOp op) (rD X.KW g)) (ha : PE' X a da) (hb : PE' X b db) (hm : behindInMarks op b = false) : PE' X (.Compare a [op] [b] pos) (d2 g da db) := lift2 (fun h1 h2 => pe_cmpR ho h1 h2 hm) ha hb

/-! ### tests -/
def dtE (d : DE) : DT := fun ρ S => (d ρ S).bind fun p => match p.1 with
  | .bl k => some (k, p.2)
  | _ => none
theorem dtE_of {d : DE} {ρ : Env'} {S : Sh} {k : Bool} {S' : Sh} (h : dtE d ρ S = some (k, S')) : d ρ S = some (.bl k, S') := by
  obtain ⟨⟨x, S1⟩, e1, h⟩ := bindS h
  cases x <;> simp only [reduceCtorEq] at h
  cases h
  exact e1
theorem liftTE {t : TE} (h : PT X e (tTest t)) (ht : ∀ σ H Q, liftE X.KW da σ H Q → t σ H Q) : PT' X e (dtE da) := PT.imp h fun σ H Q => by
  rintro ⟨W, ρ, S, r, S', R, hd, k⟩
  refine ht σ H _ ⟨W, ρ, S, .bl r, S', R, dtE_of hd, fun W' v H' s' R' r' => ⟨r, r', k W' H' s' R'⟩⟩
theorem dpt_val (ha : PE' X e da) (he : ∀ whole, isTrue e X.env whole = (do let v ← whole; standAt e.pos; holding [v] (truthy v)) := by intro _; rfl) : PT' X e (dtE da) := liftTE (t := liftE X.KW da) (PT.imp (pt_val ha he) fun _ _ _ h => h) fun _ _ _ h => h
theorem tOp_of {g : D → D → Option D} {σ : L2.St} {H : Hp} {Q : VK} (h : liftE X.KW (d2 g da db) σ H Q) : tOp (rD X.KW g) (liftE X.KW da) (liftE X.KW db) σ H Q := by
  obtain ⟨W, ρ, S, r, S', R, hd, k⟩ := h
  obtain ⟨⟨x, S1⟩, e1, hd⟩ := bindS hd
  obtain ⟨⟨y, S2⟩, e2, hd⟩ := bindS hd
  obtain ⟨z, e3, hd⟩ := mapS hd
  cases hd
  refine ⟨W, ρ, S, x, S1, R, e1, fun W1 v H1 s1 R1 r1 => ⟨W1, ρ, S1, y, S2, R1, e2, fun W2 u H2 s2 R2 r2 => ?_⟩⟩
  exact ⟨W2, S2, x, y, _, R2.base, r1.mono s2.le, r2, e3, fun W3 w H3 s3 B3 r3 => k W3 w H3 ((s1.trans s2).trans s3) ⟨B3, R2.env.mono s3.le⟩ r3⟩
theorem dpt_cmp {op : CmpOp} {g : D → D → Option D} (ho : OpR X (compareOp op) (rD X.KW g)) (ha : PE' X a da) (hb : PE' X b db) (hm : behindInMarks op b = false) : PT' X (.Compare a [op] [b] pos) (dtE (d2 g da db)) := liftTE (pt_cmpR ho ha hb hm) fun _ _ _ h => tOp_of h
def dNot (d : DT) : DT := fun ρ S => (d ρ S).map fun p => (!p.1, p.2)
theorem dpt_not (ha : PT' X a dt) : PT' X (.UnaryOp .Not a pos) (dNot dt) := PT.imp (pt_not ha) fun σ H Q => by
  rintro ⟨W, ρ, S, r, S', R, hd, k⟩
  obtain ⟨⟨x, S1⟩, e1, hd⟩ := mapS hd
  cases hd
  exact ⟨W, ρ, S, x, S1, R, e1, fun W' H' s' R' => k W' H' s' R'⟩
def dAnd (d d' : DT) : DT := fun ρ S => (d ρ S).bind fun p => if p.1 then d' ρ p.2 else some (false, p.2)
def dOr (d d' : DT) : DT := fun ρ S => (d ρ S).bind fun p => if p.1 then some (true, p.2) else d' ρ p.2
abbrev PW' (X : Cx) (e : Expr) (d : DT) : Prop := PW X e (liftT X.KW d)
theorem PW.imp {t t' : TT} (h : PW X e t) (hi : ∀ σ H Q, t' σ H Q → t σ H Q) : PW X e t' := ⟨fun whole pins s σ H Q I hw => h.run whole pins s σ H Q I (hi _ _ _ hw)⟩
theorem dpw_and1 (ha : PT' X a dt) : PW' X (.BoolOp .And [a] pos) dt := pw_and1 ha
theorem dpw_or1 (ha : PT' X a dt) : PW' X (.BoolOp .Or [a] pos) dt := pw_or1 ha
theorem dpw_and (ha : PT' X a dt) (hb : PW' X (.BoolOp .And (b :: es) pos) dt2) : PW' X (.BoolOp .And (a :: b :: es) pos) (dAnd dt dt2) := PW.imp (pw_and ha hb) fun σ H Q => by
  rintro ⟨W, ρ, S, r, S', R, hd, k⟩
  obtain ⟨⟨x, S1⟩, e1, hd⟩ := bindS hd
  refine ⟨W, ρ, S, x, S1, R, e1, fun W1 H1 s1 R1 => ?_⟩
  cases x with
  | true =>
    rw [if_pos rfl]
    exact ⟨W1, ρ, S1, r, S', R1, by simpa using hd, fun W2 H2 s2 R2 => k W2 H2 (s1.trans s2) R2⟩
  | false =>
    rw [if_neg Bool.false_ne_true]
    simp only [Bool.false_eq_true, if_false] at hd
    cases hd
    exact k W1 H1 s1 R1
theorem dpw_or (ha : PT' X a dt) (hb : PW' X (.BoolOp .Or (b :: es) pos) dt2) : PW' X (.BoolOp .Or (a :: b :: es) pos) (dOr dt dt2) := PW.imp (pw_or ha hb) fun σ H Q => by
  rintro ⟨W, ρ, S, r, S', R, hd, k⟩
  obtain ⟨⟨x, S1⟩, e1, hd⟩ := bindS hd
  refine ⟨W, ρ, S, x, S1, R, e1, fun W1 H1 s1 R1 => ?_⟩
  cases x with
  | true =>
    rw [if_pos rfl]
    simp only [if_true] at hd
    cases hd
    exact k W1 H1 s1 R1
  | false =>
    rw [if_neg Bool.false_ne_true]
    exact ⟨W1, ρ, S1, r, S', R1, by simpa using hd, fun W2 H2 s2 R2 => k W2 H2 (s1.trans s2) R2⟩
theorem dpt_w (h : PW' X e dt) : PT' X e dt := h.pt
/-! ### truth values -/
def dAndV (d d' : DE) : DE := fun ρ S => (d ρ S).bind fun p => match p.1 with
  | .bl k => if k then d' ρ p.2 else some (.bl false, p.2)
  | _ => none
def dOrV (d d' : DE) : DE := fun ρ S => (d ρ S).bind fun p => match p.1 with
  | .bl k => if k then some (.bl true, p.2) else d' ρ p.2
  | _ => none
def notD : D → Option D
  | .bl k => some (.bl (!k))
  | _ => none
theorem dpe_one {op} (h : PE' X a da) : PE' X (.BoolOp op [a] pos) da := pe_one h
theorem dpe_and (ha : PE' X a da) (hb : PE' X (.BoolOp .And (b :: es) pos) db) : PE' X (.BoolOp .And (a :: b :: es) pos) (dAndV da db) := PE.imp (pe_and ha hb) fun σ H Q => by
  rintro ⟨W, ρ, S, r, S', R, hd, k⟩
  obtain ⟨⟨x, S1⟩, e1, hd⟩ := bindS hd
  cases x <;> simp only [reduceCtorEq] at hd
  rename_i x
  refine ⟨W, ρ, S, _, S1, R, e1, fun W1 v H1 s1 R1 r1 => ⟨x, r1, ?_⟩⟩
  cases x with
  | true =>
    rw [if_pos rfl]
    exact ⟨W1, ρ, S1, r, S', R1, by simpa using hd, fun W2 v H2 s2 R2 => k W2 v H2 (s1.trans s2) R2⟩
  | false =>
    rw [if_neg Bool.false_ne_true]
    simp only [Bool.false_eq_true, if_false] at hd
    cases hd
    exact k W1 _ H1 s1 R1 rfl
theorem dpe_or (ha : PE' X a da) (hb : PE' X (.BoolOp .Or (b :: es) pos) db) : PE' X (.BoolOp .Or (a :: b :: es) pos) (dOrV da db) := PE.imp (pe_or ha hb) fun σ H Q => by
  rintro ⟨W, ρ, S, r, S', R, hd, k⟩
  obtain ⟨⟨x, S1⟩, e1, hd⟩ := bindS hd
  cases x <;> simp only [reduceCtorEq] at hd
  rename_i x
  refine ⟨W, ρ, S, _, S1, R, e1, fun W1 v H1 s1 R1 r1 => ⟨x, r1, ?_⟩⟩
  cases x with
  | true =>
    rw [if_pos rfl]
    simp only [if_true] at hd
    cases hd
    exact k W1 _ H1 s1 R1 rfl
  | false =>
    rw [if_neg Bool.false_ne_true]
    exact ⟨W1, ρ, S1, r, S', R1, by simpa using hd, fun W2 v H2 s2 R2 => k W2 v H2 (s1.trans s2) R2⟩
theorem dpe_not (ha : PE' X a da) : PE' X (.UnaryOp .Not a pos) (d1 notD da) := PE.imp (pe_not ha) fun σ H Q => by
  rintro ⟨W, ρ, S, r, S', R, hd, k⟩
  obtain ⟨⟨x, S1⟩, e1, hd⟩ := bindS hd
  obtain ⟨z, e3, hd⟩ := mapS hd
  cases hd
  cases x <;> simp only [notD, reduceCtorEq] at e3
  cases e3
  exact ⟨W, ρ, S, _, S1, R, e1, fun W1 v H1 s1 R1 r1 => ⟨_, r1, k W1 _ H1 s1 R1 rfl⟩⟩
def dIfE (t : DT) (d d' : DE) : DE := fun ρ S => (t ρ S).bind fun p => if p.1 then d ρ p.2 else d' ρ p.2
theorem dpe_if (hc : PT' X c dt) (ha : PE' X a da) (hb : PE' X b db) : PE' X (.IfExp c a b pos) (dIfE dt da db) := PE.imp (pe_ifExp hc ha hb) fun σ H Q => by
  rintro ⟨W, ρ, S, r, S', R, hd, k⟩
  obtain ⟨⟨x, S1⟩, e1, hd⟩ := bindS hd
  refine ⟨W, ρ, S, x, S1, R, e1, fun W1 H1 s1 R1 => ?_⟩
  cases x with
  | true =>
    rw [if_pos rfl]
    exact ⟨W1, ρ, S1, r, S', R1, by simpa using hd, fun W2 v H2 s2 R2 => k W2 v H2 (s1.trans s2) R2⟩
  | false =>
    rw [if_neg Bool.false_ne_true]
    exact ⟨W1, ρ, S1, r, S', R1, by simpa using hd, fun W2 v H2 s2 R2 => k W2 v H2 (s1.trans s2) R2⟩
/-! ### a op b op c -/
def dChain (g g' : D → D → Option D) (da db dc : DE) : DE := fun ρ S => (da ρ S).bind fun p => (db ρ p.2).bind fun q => (g p.1 q.1).bind fun z => match z with
  | .bl k => if k then (dc ρ q.2).bind fun r => (g' q.1 r.1).map fun z => (z, r.2) else some (.bl false, q.2)
  | _ => none
theorem tChain_of {g g' : D → D → Option D} {σ : L2.St} {H : Hp} {Q : VK} (h : liftE X.KW (dChain g g' da db dc) σ H Q) : tChain (rD X.KW g) (rD X.KW g') (liftE X.KW da) (liftE X.KW db) (liftE X.KW dc) σ H Q := by
  obtain ⟨W, ρ, S, r, S', R, hd, k⟩ := h
  obtain ⟨⟨x, S1⟩, e1, hd⟩ := bindS hd
  obtain ⟨⟨y, S2⟩, e2, hd⟩ := bindS hd
  obtain ⟨z, e3, hd⟩ := bindS hd
  cases z <;> simp only [reduceCtorEq] at hd
  rename_i kk
  refine ⟨W, ρ, S, x, S1, R, e1, fun W1 v H1 s1 R1 r1 => ⟨W1, ρ, S1, y, S2, R1, e2, fun W2 u H2 s2 R2 r2 => ?_⟩⟩
  refine ⟨W2, S2, x, y, _, R2.base, r1.mono s2.le, r2, e3, fun W3 w H3 s3 B3 r3 => ⟨kk, r3, ?_⟩⟩
  have R3 : Rel X.KW W3 ρ S2 σ H3 := ⟨B3, R2.env.mono s3.le⟩
  have s03 := (s1.trans s2).trans s3
  cases kk with
  | true =>
    rw [if_pos rfl]
    simp only [if_true] at hd
    obtain ⟨⟨x4, S4⟩, e4, hd⟩ := bindS hd
    obtain ⟨z, e5, hd⟩ := mapS hd
    cases hd
    refine ⟨W3, ρ, S2, x4, S4, R3, e4, fun W4 v4 H4 s4 R4 r4 => ?_⟩
    exact ⟨W4, S4, y, x4, _, R4.base, r2.mono (s3.le.trans s4.le), r4, e5, fun W5 w5 H5 s5 B5 r5 => k W5 w5 H5 ((s03.trans s4).trans s5) ⟨B5, R4.env.mono s5.le⟩ r5⟩
  | false =>
    rw [if_neg Bool.false_ne_true]
    simp only [Bool.false_eq_true, if_false] at hd
    cases hd
    exact k W3 _ H3 s03 R3 rfl
theorem dpe_chain {op op' : CmpOp} {g g' : D → D → Option D} (ho : OpR X (compareOp op) (rD X.KW g)) (ho' : OpR X (compareOp op') (rD X.KW g')) (ha : PE' X a da) (hb : PE' X b db) (hc : PE' X c dc)
    (hm : lastMarks [op, op'] [b, c] = false := by with_unfolding_all rfl) : PE' X (.Compare a [op, op'] [b, c] pos) (dChain g g' da db dc) := PE.imp (pe_chain ho ho' ha hb hc hm) fun _ _ _ h => tChain_of h
theorem dpt_chain {op op' : CmpOp} {g g' : D → D → Option D} (ho : OpR X (compareOp op) (rD X.KW g)) (ho' : OpR X (compareOp op') (rD X.KW g')) (ha : PE' X a da) (hb : PE' X b db) (hc : PE' X c dc)
    (hm : lastMarks [op, op'] [b, c] = false := by with_unfolding_all rfl) : PT' X (.Compare a [op, op'] [b, c] pos) (dtE (dChain g g' da db dc)) := liftTE (pt_chain ho ho' ha hb hc hm) fun _ _ _ h => tChain_of h
/-! ### displays -/
def tTupZ (t : TA) : TE := fun σ H Q => t σ H fun xs H1 => xs.length ≤ sizeLine ∧ ∀ p its, H1 p = none → Q (.ref p) (upd H1 p (.frz (tupOb its) (.tup xs)))
theorem pe_tupZ {t : TA} {x1} (h : PA X es t) : PE X (.Tuple es x1 pos) (tTupZ t) := by
  refine ⟨fun pins s σ H Q I hq => ?_⟩
  refine wpAny_Tuple_spliced (thn (h.run pos pins s σ H _ I hq) fun us s1 ⟨xs, H1, I1, r, z, q⟩ => ⟨by rw [← r.length]; exact z, ?_⟩)
  have hf : H1 s1.heap.objs.size = none := I1.hok.fresh (Nat.le_refl _)
  refine ⟨.ref s1.heap.objs.size, upd H1 s1.heap.objs.size (.frz (tupOb us) (.tup xs)), I1.laid (t' := s1.toks) (fun b u e => Heap.get?_push_of_some _ e) (Nat.le_refl _) ?_, rfl, q _ _ hf⟩
  exact tupOb_ok (Heap.get?_push_size _ rfl) z r
def tupO (ds : List D) : Option D := if ds.length ≤ sizeLine then some (.tup ds) else none
def lstO (ds : List D) : Option D := if ds.length ≤ sizeLine then some (.lst ds) else none
def dTup (dl : DA) : DE := dCall tupO dl
def dLst (dl : DA) : DE := dCall lstO dl
theorem dpe_tup {x1} (h : PA' X es dl) : PE' X (.Tuple es x1 pos) (dTup dl) := PE.imp (pe_tupZ h) fun σ H Q => by
  rintro ⟨W, ρ, S, r, S', R, hd, k⟩
  obtain ⟨⟨x, S1⟩, e1, hd⟩ := bindS hd
  obtain ⟨z, e3, hd⟩ := mapS hd
  cases hd
  simp only [tupO, Option.ite_none_right_eq_some] at e3
  obtain ⟨hl, e3⟩ := e3
  cases e3
  refine ⟨W, ρ, S, x, S1, R, e1, fun W1 vs H1 s1 R1 r1 => ⟨by rw [r1.length]; exact hl, fun p its hp => ?_⟩⟩
  obtain ⟨W', s', B', t', _⟩ := R1.base.laidT (x := tupOb its) (vs := vs) hp rfl
  exact k W' _ _ (s1.trans s') ⟨B', R1.env.mono s'.le⟩ ⟨p, vs, rfl, t', r1.mono s'.le⟩
theorem dpe_lst (h : PA' X es dl) : PE' X (.List es pos) (dLst dl) := PE.imp (pe_lst h) fun σ H Q => by
  rintro ⟨W, ρ, S, r, S', R, hd, k⟩
  obtain ⟨⟨x, S1⟩, e1, hd⟩ := bindS hd
  obtain ⟨z, e3, hd⟩ := mapS hd
  cases hd
  simp only [lstO, Option.ite_none_right_eq_some] at e3
  obtain ⟨hl, e3⟩ := e3
  cases e3
  refine ⟨W, ρ, S, x, S1, R, e1, fun W1 vs H1 s1 R1 r1 => ⟨by rw [r1.length]; exact hl, fun p hp => ?_⟩⟩
  obtain ⟨W', s', B', t', _⟩ := R1.base.laid (vs := vs) hp
  exact k W' _ _ (s1.trans s') ⟨B', R1.env.mono s'.le⟩ ⟨p, vs, rfl, t', r1.mono s'.le⟩
/-! ### subscripts -/
theorem Reps.atI {W : Wd} {ds : List D} {vs : List V} {i : Int} {d : D} (r : Reps W ds vs) (h : atI ds i = some d) : ∃ v, L2.atI vs i = some v ∧ Rep W d v := by
  unfold L2.atI at h ⊢
  obtain ⟨j, h1, h2⟩ := bindS h
  obtain ⟨v, h3, h4⟩ := r.get h2
  rw [r.length]
  exact ⟨v, by rw [h1]; exact h3, h4⟩
def idxD (x y : D) : Option D := match y with
  | .int i => match x with
    | .str z => if z.length ≤ sizeLine then (atI z.cps.toList i).map fun c => .str ⟨#[c]⟩ else none
    | x => (seqD x).bind fun ds => atI ds i
  | _ => none
theorem ixd : IxR X (rD X.KW idxD) := by
  intro value slice pins s σ H x y v u Q I rx ry ⟨W, S, dx, dy, z, B, r1, r2, hd, k⟩ hs
  cases dy <;> simp only [idxD, reduceCtorEq] at hd
  rename_i i
  cases r2
  by_cases hstr : ∃ t, dx = .str t
  · obtain ⟨t, rfl⟩ := hstr
    simp only [Option.ite_none_right_eq_some] at hd
    obtain ⟨h1, h2⟩ := hd
    obtain ⟨c, h3, rfl⟩ := mapS h2
    cases r1
    exact ix_str value slice pins s σ H _ _ v u Q I rx ry ⟨t, i, c, rfl, rfl, h1, h3, k W _ H (.refl _ _) B rfl⟩ hs
  · have hd' : (seqD dx).bind (fun ds => atI ds i) = some z := by
      cases dx with
      | str t => exact absurd ⟨t, rfl⟩ hstr
      | _ => exact hd
    obtain ⟨ds, h1, h2⟩ := bindS hd'
    obtain ⟨a, vs, rfl, h3, h4⟩ := B.seq r1 h1
    obtain ⟨w, h5, h6⟩ := h4.atI h2
    rcases h3 with h3 | h3
    · exact ix_list value slice pins s σ H _ _ v u Q I rx ry ⟨a, vs, i, w, rfl, rfl, h3, h5, k W _ H (.refl _ _) B h6⟩ hs
    · exact ix_tup value slice pins s σ H _ _ v u Q I rx ry ⟨a, vs, i, w, rfl, rfl, h3, h5, k W _ H (.refl _ _) B h6⟩ hs
theorem dpe_ix (ha : PE' X a da) (hb : PE' X b db) (hs : PlainIx b) : PE' X (.Subscript a b pos) (d2 idxD da db) := lift2 (fun h1 h2 => pe_ix ixd h1 h2 hs) ha hb
end
end DL


/-! DL5: slots, own lists, statements -/
namespace DL
open PySem L2 PyProof.Rows

/-- own objects beside lists: a dict; a dict of own lists; a list of own lists -/
inductive OX where
  | d (ks vs : List D) | g (ks : List D) (vss : List (List D)) | l (dss : List (List D))
inductive Sl where
  | no | val (d : D) | own (ds : List D) | owx (x : OX)
abbrev Env2 := List Sl

mutual
/-- no list within -/
def pureD : D → Bool
  | .non => true
  | .bl _ => true
  | .int _ => true
  | .str _ => true
  | .ref _ => true
  | .tup ds => pureDs ds
  | .rol ds => pureDs ds
  | _ => false
def pureDs : List D → Bool
  | [] => true
  | d :: ds => pureD d && pureDs ds
end
def pureSh : Sh → Bool
  | [] => true
  | ds :: r => pureDs ds && pureSh r
mutual
theorem Rep.pure {W W' : Wd} (hm : ∀ (i : Nat) a, W.m[i]? = some a → W'.m[i]? = some a) (ht : ∀ a vs, W.T a = some (.tup vs) → W'.T a = some (.tup vs)) (hs : W'.sa = W.sa) : ∀ (d : D) {v : V}, pureD d = true → Rep W d v → Rep W' d v
  | .non, _, _, h => h
  | .bl _, _, _, h => h
  | .int _, _, _, h => h
  | .str _, _, _, h => h
  | .ref i, _, _, h => by
    obtain ⟨a, h1, h2⟩ := h
    exact ⟨a, hm _ _ h1, h2⟩
  | .tup ds, _, p, h => by
    obtain ⟨a, vs, h1, h2, h3⟩ := h
    exact ⟨a, vs, h1, ht _ _ h2, Reps.pure hm ht hs ds (by simpa [pureD] using p) h3⟩
  | .lst ds, _, p, _ => by simp [pureD] at p
  | .rol ds, _, p, h => by
    obtain ⟨a, vs, h1, h2, h3⟩ := h
    exact ⟨a, vs, h1, hs.trans h2, Reps.pure hm ht hs ds (by simpa [pureD] using p) h3⟩
  | .dcu _ _, _, p, _ => by simp [pureD] at p
  | .dct _ _, _, p, _ => by simp [pureD] at p
theorem Reps.pure {W W' : Wd} (hm : ∀ (i : Nat) a, W.m[i]? = some a → W'.m[i]? = some a) (ht : ∀ a vs, W.T a = some (.tup vs) → W'.T a = some (.tup vs)) (hs : W'.sa = W.sa) : ∀ (ds : List D) {vs : List V}, pureDs ds = true → Reps W ds vs → Reps W' ds vs
  | [], _, _, h => h
  | d :: ds, _, p, h => by
    obtain ⟨v, r, h1, h2, h3⟩ := h
    rw [pureDs, Bool.and_eq_true] at p
    exact ⟨v, r, h1, Rep.pure hm ht hs d p.1 h2, Reps.pure hm ht hs ds p.2 h3⟩
end
theorem pureSh_get : ∀ {S : Sh} {i : Nat} {ds : List D}, pureSh S = true → S[i]? = some ds → pureDs ds = true
  | [], _, _, _, e => by simp at e
  | x :: xs, 0, _, h, e => by
    rw [pureSh, Bool.and_eq_true] at h
    simp at e; subst e
    exact h.1
  | x :: xs, i + 1, _, h, e => by
    rw [pureSh, Bool.and_eq_true] at h
    exact pureSh_get h.2 (by simpa using e)

/-- own things as values -/
def fzX : OX → D
  | .d ks vs => .dcu ks vs
  | .g ks vss => .dcu ks (vss.map .lst)
  | .l dss => .lst (dss.map .lst)
/-- own lists as values: those in keep; the others are not seen -/
def fz1 (b : Bool) : Sl → Option D
  | .no => none
  | .val d => some d
  | .own ds => if b then some (.lst ds) else none
  | .owx x => if b then some (fzX x) else none
def fzE (keep : List Nat) : Nat → Env2 → Env'
  | _, [] => []
  | n, s :: r => fz1 (keep.contains n) s :: fzE keep (n + 1) r
def frz1 (b : Bool) : Sl → Sl
  | .own ds => if b then .val (.lst ds) else .own ds
  | .owx x => if b then .val (fzX x) else .owx x
  | s => s
def frz (keep : List Nat) : Nat → Env2 → Env2
  | _, [] => []
  | n, s :: r => frz1 (keep.contains n) s :: frz keep (n + 1) r
theorem fzE_get (keep : List Nat) : ∀ (ρ : Env2) (n i : Nat), (fzE keep n ρ)[i]? = (ρ[i]?).map (fz1 (keep.contains (n + i)))
  | [], _, i => by simp [fzE]
  | s :: r, n, 0 => by simp [fzE]
  | s :: r, n, i + 1 => by
    rw [fzE, List.getElem?_cons_succ, fzE_get keep r (n + 1) i, List.getElem?_cons_succ, Nat.add_right_comm, Nat.add_assoc]
theorem frz_get (keep : List Nat) : ∀ (ρ : Env2) (n i : Nat), (frz keep n ρ)[i]? = (ρ[i]?).map (frz1 (keep.contains (n + i)))
  | [], _, i => by simp [frz]
  | s :: r, n, 0 => by simp [frz]
  | s :: r, n, i + 1 => by
    rw [frz, List.getElem?_cons_succ, frz_get keep r (n + 1) i, List.getElem?_cons_succ, Nat.add_right_comm, Nat.add_assoc]
theorem fzE_len (keep : List Nat) : ∀ (ρ : Env2) (n : Nat), (fzE keep n ρ).length = ρ.length
  | [], _ => rfl
  | s :: r, n => by rw [fzE, List.length_cons, fzE_len keep r, List.length_cons]
theorem frz_len (keep : List Nat) : ∀ (ρ : Env2) (n : Nat), (frz keep n ρ).length = ρ.length
  | [], _ => rfl
  | s :: r, n => by rw [frz, List.length_cons, frz_len keep r, List.length_cons]
theorem frz_nil : ∀ (ρ : Env2) (n : Nat), frz [] n ρ = ρ
  | [], _ => rfl
  | s :: r, n => by
    rw [frz, frz_nil r]
    cases s <;> rfl

/-! ### what stands at own slots; f: the addresses that belong to the slot -/
def Kids (W : Wd) (H : Hp) (f : Addr → Prop) (a : Addr) (dss : List (List D)) (ws : List V) : Prop := ws.Nodup ∧ V.ref a ∉ ws ∧ dss.length = ws.length ∧
  ∀ (i : Nat) ds, dss[i]? = some ds → ∃ b us, ws[i]? = some (V.ref b) ∧ H b = some (.lst us) ∧ Reps W ds us ∧ f b
def OxR (W : Wd) (H : Hp) (f : Addr → Prop) : OX → V → Prop
  | .d ks vs, v => ∃ a ho us ws, v = .ref a ∧ H a = some ho ∧ DctO W.w a ho ks us ws ∧ Reps W ks us ∧ Reps W vs ws ∧ f a
  | .g ks vss, v => ∃ a ho us ws, v = .ref a ∧ H a = some ho ∧ DctO W.w a ho ks us ws ∧ Reps W ks us ∧ Kids W H f a vss ws ∧ f a
  | .l dss, v => ∃ a ws, v = .ref a ∧ H a = some (.lst ws) ∧ Kids W H f a dss ws ∧ f a
def SlOwn (W : Wd) (H : Hp) (f : Addr → Prop) : Sl → Option (Option V) → Prop
  | .own ds, z => ∃ a vs, z = some (some (.ref a)) ∧ H a = some (.lst vs) ∧ Reps W ds vs ∧ f a
  | .owx x, z => ∃ v, z = some (some v) ∧ OxR W H f x v
  | _, _ => True
def ownO : HO → Prop
  | .lst _ => True
  | .dK _ => True
  | .ext _ => True
  | _ => False
structure Own (W : Wd) (H H0 : Hp) (F : Nat → Addr → Prop) (ρ : Env2) (σ : L2.St) : Prop where
  at_ : ∀ (i : Nat) s, ρ[i]? = some s → SlOwn W H (F i) s σ[i]?
  low : ∀ (i : Nat) a, F i a → W.T a = none ∧ a ∉ W.m ∧ H0 a = none ∧ ∃ o, H a = some o ∧ ownO o
  dis : ∀ (i j : Nat) a, F i a → F j a → i = j
theorem Kids.step {W W1 : Wd} {H H1 : Hp} {f g : Addr → Prop} {a : Addr} {dss : List (List D)} {ws : List V} (h : Kids W H f a dss ws) (l : Le W W1) (e : ∀ b, f b → H1 b = H b) (fg : ∀ b, f b → g b) : Kids W1 H1 g a dss ws :=
  ⟨h.1, h.2.1, h.2.2.1, fun i ds q => by
    obtain ⟨b, us, h1, h2, h3, h4⟩ := h.2.2.2 i ds q
    exact ⟨b, us, h1, by rw [e b h4]; exact h2, h3.mono l, fg b h4⟩⟩
theorem OxR.step {W W1 : Wd} {H H1 : Hp} {f g : Addr → Prop} {x : OX} {v : V} (h : OxR W H f x v) (l : Le W W1) (e : ∀ b, f b → H1 b = H b) (fg : ∀ b, f b → g b) : OxR W1 H1 g x v := by
  cases x with
  | d ks vs =>
    obtain ⟨a, ho, us, ws, h1, h2, h3, h4, h5, h6⟩ := h
    exact ⟨a, ho, us, ws, h1, by rw [e a h6]; exact h2, by rw [l.we]; exact h3, h4.mono l, h5.mono l, fg a h6⟩
  | g ks vs =>
    obtain ⟨a, ho, us, ws, h1, h2, h3, h4, h5, h6⟩ := h
    exact ⟨a, ho, us, ws, h1, by rw [e a h6]; exact h2, by rw [l.we]; exact h3, h4.mono l, h5.step l e fg, fg a h6⟩
  | l dss =>
    obtain ⟨a, ws, h1, h2, h3, h4⟩ := h
    exact ⟨a, ws, h1, by rw [e a h4]; exact h2, h3.step l e fg, fg a h4⟩
theorem SlOwn.step {W W1 : Wd} {H H1 : Hp} {f g : Addr → Prop} {s : Sl} {z : Option (Option V)} (h : SlOwn W H f s z) (l : Le W W1) (e : ∀ b, f b → H1 b = H b) (fg : ∀ b, f b → g b) : SlOwn W1 H1 g s z := by
  cases s with
  | no => trivial
  | val d => trivial
  | own ds =>
    obtain ⟨a, vs, h1, h2, h3, h4⟩ := h
    exact ⟨a, vs, h1, by rw [e a h4]; exact h2, h3.mono l, fg a h4⟩
  | owx x =>
    obtain ⟨v, h1, h2⟩ := h
    exact ⟨v, h1, h2.step l e fg⟩
theorem Own.step {W W1 : Wd} {H H1 H0 : Hp} {F : Nat → Addr → Prop} {ρ : Env2} {σ : L2.St} (o : Own W H H0 F ρ σ) (s : Stp W W1 H H1) : Own W1 H1 H0 F ρ σ := by
  have e : ∀ i b, F i b → H1 b = H b := fun i b h => by
    obtain ⟨_, h2, _, u, h4, _⟩ := o.low i b h
    rw [h4]; exact s.keep b u h4 h2
  refine ⟨fun i sl h => (o.at_ i sl h).step s.le (e i) fun _ h => h, fun i a h => ?_, o.dis⟩
  obtain ⟨h1, h2, h3, u, h4, h5⟩ := o.low i a h
  refine ⟨?_, fun q => ?_, h3, u, by rw [e i a h]; exact h4, h5⟩
  · cases q : W1.T a with
    | none => rfl
    | some o =>
      rcases s.newT a o q with z | z
      · rw [h1] at z; cases z
      · rw [h4] at z; cases z
  · rcases s.new a q with z | z
    · exact h2 z
    · rw [h4] at z; cases z
theorem Reps.of_get {W : Wd} : ∀ {ds : List D} {vs : List V}, ds.length = vs.length → (∀ (i : Nat) d, ds[i]? = some d → ∃ v, vs[i]? = some v ∧ Rep W d v) → Reps W ds vs
  | [], [], _, _ => rfl
  | d :: ds, v :: vs, l, h => by
    obtain ⟨u, h1, h2⟩ := h 0 d rfl
    cases h1
    exact ⟨v, vs, rfl, h2, Reps.of_get (by simpa using l) fun i d' e => by
      obtain ⟨u, h3, h4⟩ := h (i + 1) d' (by simpa using e)
      exact ⟨u, by simpa using h3, h4⟩⟩
  | [], _ :: _, l, _ => by simp at l
  | _ :: _, [], l, _ => by simp at l
theorem Kids.reps {W W1 : Wd} {H : Hp} {f : Addr → Prop} {a : Addr} {dss : List (List D)} {ws : List V} (h : Kids W H f a dss ws) (l : Le W W1) (e : ∀ b, f b → W1.T b = H b) : Reps W1 (dss.map .lst) ws := by
  refine Reps.of_get (by rw [List.length_map]; exact h.2.2.1) fun i d hd => ?_
  rw [List.getElem?_map] at hd
  cases q : dss[i]? with
  | none => rw [q] at hd; cases hd
  | some ds =>
    rw [q] at hd
    cases hd
    obtain ⟨b, us, h1, h2, h3, h4⟩ := h.2.2.2 i ds q
    exact ⟨_, h1, b, us, rfl, by rw [e b h4]; exact h2, h3.mono l⟩
theorem OxR.rep {W W1 : Wd} {H : Hp} {f : Addr → Prop} {x : OX} {v : V} (h : OxR W H f x v) (l : Le W W1) (e : ∀ b, f b → W1.T b = H b) : Rep W1 (fzX x) v := by
  cases x with
  | d ks vs =>
    obtain ⟨a, ho, us, ws, h1, h2, h3, h4, h5, h6⟩ := h
    exact ⟨a, ho, us, ws, h1, by rw [e a h6]; exact h2, by rw [l.we]; exact h3, h4.mono l, h5.mono l⟩
  | g ks vs =>
    obtain ⟨a, ho, us, ws, h1, h2, h3, h4, h5, h6⟩ := h
    exact ⟨a, ho, us, ws, h1, by rw [e a h6]; exact h2, by rw [l.we]; exact h3, h4.mono l, h5.reps l e⟩
  | l dss =>
    obtain ⟨a, ws, h1, h2, h3, h4⟩ := h
    exact ⟨a, ws, h1, by rw [e a h4]; exact h2, h3.reps l e⟩

structure RelS (X : Cx) (W0 W : Wd) (ρ : Env2) (S : Sh) (σ : L2.St) (H : Hp) : Prop where
  base : Base X.KW W S H
  ent : Stp W0 W X.H_0 H
  len : ρ.length = σ.length
  val : ∀ (i : Nat) d, ρ[i]? = some (.val d) → ∃ v, σ[i]? = some (some v) ∧ Rep W d v
  ownF : ∃ F, Own W H X.H_0 F ρ σ

section
variable {X : Cx} {W0 W W1 : Wd} {ρ : Env2} {S S1 : Sh} {σ : L2.St} {H H1 : Hp}
theorem RelS.own (R : RelS X W0 W ρ S σ H) (i : Nat) (ds : List D) (h : ρ[i]? = some (.own ds)) : ∃ a vs, σ[i]? = some (some (.ref a)) ∧ H a = some (.lst vs) ∧ Reps W ds vs ∧ W.T a = none ∧ a ∉ W.m ∧ X.H_0 a = none := by
  obtain ⟨F, o⟩ := R.ownF
  obtain ⟨a, vs, h1, h2, h3, h4⟩ := o.at_ i _ h
  obtain ⟨h5, h6, h7, _⟩ := o.low i a h4
  exact ⟨a, vs, h1, h2, h3, h5, h6, h7⟩
theorem RelS.inj (R : RelS X W0 W ρ S σ H) (i j : Nat) (ds es : List D) (a : Addr) (h1 : ρ[i]? = some (.own ds)) (h2 : ρ[j]? = some (.own es)) (h3 : σ[i]? = some (some (V.ref a))) (h4 : σ[j]? = some (some (V.ref a))) : i = j := by
  obtain ⟨F, o⟩ := R.ownF
  obtain ⟨a1, _, p1, _, _, p4⟩ := o.at_ i _ h1
  obtain ⟨a2, _, q1, _, _, q4⟩ := o.at_ j _ h2
  rw [h3] at p1; cases p1
  rw [h4] at q1; cases q1
  exact o.dis i j a p4 q4
theorem RelS.step (R : RelS X W0 W ρ S σ H) (s : Stp W W1 H H1) (B : Base X.KW W1 S1 H1) : RelS X W0 W1 ρ S1 σ H1 := by
  refine ⟨B, R.ent.trans s, R.len, fun i d h => ?_, ?_⟩
  · obtain ⟨v, h1, h2⟩ := R.val i d h
    exact ⟨v, h1, h2.mono s.le⟩
  · obtain ⟨F, o⟩ := R.ownF
    exact ⟨F, o.step s⟩

/-- the addresses of the own things in keep -/
def OwnAt (keep : List Nat) (F : Nat → Addr → Prop) (a : Addr) : Prop := ∃ i, keep.contains i = true ∧ F i a
noncomputable def RelS.F (R : RelS X W0 W ρ S σ H) : Nat → Addr → Prop := Classical.choose R.ownF
theorem RelS.oF (R : RelS X W0 W ρ S σ H) : Own W H X.H_0 R.F ρ σ := Classical.choose_spec R.ownF
open Classical in
noncomputable def wF (keep : List Nat) (F : Nat → Addr → Prop) (W : Wd) (H : Hp) : Wd := { W with T := fun a => if OwnAt keep F a then H a else W.T a }
section
variable {F : Nat → Addr → Prop}
theorem wF_at {keep : List Nat} {a : Addr} (h : OwnAt keep F a) : (wF keep F W H).T a = H a := if_pos h
theorem wF_ne {keep : List Nat} {a : Addr} (h : ¬ OwnAt keep F a) : (wF keep F W H).T a = W.T a := if_neg h
end
theorem ownO_stands {a : Addr} {o : HO} (h : H a = some o) (k : ownO o) : Stands H a o := by
  cases o with
  | lst vs => exact h
  | dK kvs => exact .inl h
  | ext φ => exact .inl h
  | _ => exact False.elim k
theorem wF_le (keep : List Nat) (R : RelS X W0 W ρ S σ H) : Le W (wF keep R.F W H) := by
  refine ⟨fun _ _ h => h, fun a o h => ?_, rfl⟩
  rw [wF_ne]
  · exact h
  · rintro ⟨i, _, h3⟩
    obtain ⟨k4, _⟩ := R.oF.low i a h3
    rw [h] at k4; cases k4
theorem wF_base (keep : List Nat) (R : RelS X W0 W ρ S σ H) : Base X.KW (wF keep R.F W H) S H := by
  have B := R.base
  refine ⟨fun a o h => ?_, B.len, fun i ds h => ?_, B.nod, fun a h => ?_, B.sa⟩
  · by_cases q : OwnAt keep R.F a
    · rw [wF_at q] at h
      obtain ⟨i, _, h3⟩ := id q
      obtain ⟨_, _, _, u, k2, k3⟩ := R.oF.low i a h3
      rw [h] at k2; cases k2
      exact ownO_stands h k3
    · rw [wF_ne q] at h
      exact B.fro a o h
  · obtain ⟨a, vs, h1, h2, h3⟩ := B.sh i ds h
    exact ⟨a, vs, h1, h2, h3.mono (wF_le keep R)⟩
  · rw [wF_ne]
    · exact B.apart a h
    · rintro ⟨i, _, h3⟩
      exact (R.oF.low i a h3).2.1 h
theorem wF_ent (keep : List Nat) (R : RelS X W0 W ρ S σ H) : Stp W0 (wF keep R.F W H) X.H_0 H := by
  have E := R.ent
  refine ⟨E.le.trans (wF_le keep R), E.keep, E.new, E.ex, fun a o h => ?_⟩
  by_cases q : OwnAt keep R.F a
  · obtain ⟨i, _, h3⟩ := q
    exact .inr (R.oF.low i a h3).2.2.1
  · rw [wF_ne q] at h
    exact E.newT a o h
theorem slot_rep {keep : List Nat} (R : RelS X W0 W ρ S σ H) {i : Nat} {s : Sl} {d : D} (q : ρ[i]? = some s) (h : fz1 (keep.contains i) s = some d) : ∃ v, σ[i]? = some (some v) ∧ Rep (wF keep R.F W H) d v := by
  cases s with
  | no => cases h
  | val d' =>
    cases h
    obtain ⟨v, h1, h2⟩ := R.val i _ q
    exact ⟨v, h1, h2.mono (wF_le keep R)⟩
  | own ds =>
    simp only [fz1, Option.ite_none_right_eq_some] at h
    obtain ⟨h1, h2⟩ := h
    cases h2
    obtain ⟨a, vs, k1, k2, k3, k4⟩ := R.oF.at_ i _ q
    exact ⟨_, k1, a, vs, rfl, by rw [wF_at ⟨i, h1, k4⟩]; exact k2, k3.mono (wF_le keep R)⟩
  | owx x =>
    simp only [fz1, Option.ite_none_right_eq_some] at h
    obtain ⟨h1, h2⟩ := h
    cases h2
    obtain ⟨v, k1, k2⟩ := R.oF.at_ i _ q
    exact ⟨v, k1, k2.rep (wF_le keep R) fun b hb => wF_at ⟨i, h1, hb⟩⟩
theorem wF_rel (keep : List Nat) (R : RelS X W0 W ρ S σ H) : Rel X.KW (wF keep R.F W H) (fzE keep 0 ρ) S σ H := by
  refine ⟨wF_base keep R, by rw [fzE_len]; exact R.len, fun i d h => ?_⟩
  rw [fzE_get, Nat.zero_add] at h
  cases q : ρ[i]? with
  | none => rw [q] at h; cases h
  | some s =>
    rw [q] at h
    exact slot_rep R q (by simpa using h)
theorem wF_relS (keep : List Nat) (R : RelS X W0 W ρ S σ H) : RelS X W0 (wF keep R.F W H) (frz keep 0 ρ) S σ H := by
  have O := R.oF
  refine ⟨wF_base keep R, wF_ent keep R, by rw [frz_len]; exact R.len, fun i d h => ?_, fun i a => keep.contains i = false ∧ R.F i a, fun i s h => ?_, fun i a h => ?_, fun i j a h1 h2 => O.dis i j a h1.2 h2.2⟩
  · rw [frz_get, Nat.zero_add] at h
    cases q : ρ[i]? with
    | none => rw [q] at h; cases h
    | some s =>
      rw [q] at h
      simp only [Option.map_some, Option.some.injEq] at h
      refine slot_rep (keep := keep) R q ?_
      cases s with
      | no => cases h
      | val d' => cases h; rfl
      | own es =>
        cases c : keep.contains i with
        | false => rw [c] at h; simp [frz1] at h
        | true => rw [c] at h; simp only [frz1, if_true, Sl.val.injEq] at h; rw [← h]; rfl
      | owx es =>
        cases c : keep.contains i with
        | false => rw [c] at h; simp [frz1] at h
        | true => rw [c] at h; simp only [frz1, if_true, Sl.val.injEq] at h; rw [← h]; rfl
  · rw [frz_get, Nat.zero_add] at h
    cases q : ρ[i]? with
    | none => rw [q] at h; cases h
    | some s0 =>
      rw [q] at h
      simp only [Option.map_some, Option.some.injEq] at h
      cases c : keep.contains i with
      | true =>
        rw [c] at h
        subst h
        cases s0 <;> exact trivial
      | false =>
        rw [c] at h
        have e : s = s0 := by subst h; cases s0 <;> rfl
        rw [e]
        exact (O.at_ i s0 q).step (wF_le keep R) (fun _ _ => rfl) fun b hb => ⟨rfl, hb⟩
  · obtain ⟨h1, h2, h3, h4⟩ := O.low i a h.2
    refine ⟨?_, h2, h3, h4⟩
    rw [wF_ne]
    · exact h1
    · rintro ⟨j, c, e⟩
      have := O.dis i j a h.2 e
      subst this
      rw [h.1] at c; cases c
/-- after a look: the own lists are own again -/
def chk (keep : List Nat) (S : Sh) : Bool := keep.isEmpty || pureSh S
theorem wP (keep : List Nat) (R : RelS X W0 W ρ S σ H) (s : Stp (wF keep R.F W H) W1 H H1) (B : Base X.KW W1 S1 H1) (hS : chk keep S1 = true) :
    ∃ W2, RelS X W0 W2 ρ S1 σ H1 ∧ (∀ d v, (pureD d = true ∨ keep.isEmpty = true) → Rep W1 d v → Rep W2 d v) ∧ (∀ ds vs, (pureDs ds = true ∨ keep.isEmpty = true) → Reps W1 ds vs → Reps W2 ds vs) ∧ (∀ a, W1.T a = none → W2.T a = none) ∧ W2.m = W1.m ∧ Own W2 H1 X.H_0 R.F ρ σ ∧ Le W W2 := by
  classical
  have O := R.oF
  refine ⟨{ W1 with T := fun a => if OwnAt keep R.F a then none else W1.T a }, ?_⟩
  have t1 : ∀ a, OwnAt keep R.F a → ∃ o, W1.T a = some o ∧ H a = some o ∧ ownO o ∧ X.H_0 a = none ∧ W.T a = none ∧ a ∉ W.m := fun a q => by
    obtain ⟨i, c, h3⟩ := id q
    obtain ⟨k4, k5, k6, o, k2, k7⟩ := O.low i a h3
    exact ⟨o, s.le.T _ _ (by rw [wF_at q]; exact k2), k2, k7, k6, k4, k5⟩
  have hne : ∀ a, ¬ OwnAt keep R.F a → (if OwnAt keep R.F a then none else W1.T a) = W1.T a := fun a q => if_neg q
  have htup : ∀ a vs, W1.T a = some (.tup vs) → (if OwnAt keep R.F a then none else W1.T a) = some (.tup vs) := fun a vs h => by
    rw [hne]
    · exact h
    · intro q
      obtain ⟨o, z, _, k, _⟩ := t1 a q
      rw [h] at z; cases z
      exact k
  have le : Le W { W1 with T := fun a => if OwnAt keep R.F a then none else W1.T a } := by
    refine ⟨fun i a h => s.le.m i a h, fun a o h => ?_, s.le.sa⟩
    show (if OwnAt keep R.F a then none else W1.T a) = some o
    have q : ¬ OwnAt keep R.F a := fun q => by
      obtain ⟨us, _, _, _, _, z, _⟩ := t1 a q
      rw [h] at z; cases z
    rw [hne a q]
    exact s.le.T _ _ (by rw [wF_ne q]; exact h)
  have em : keep.isEmpty = true → ∀ a, ¬ OwnAt keep R.F a := fun e a ⟨i, c, _⟩ => by
    rw [List.isEmpty_iff] at e
    subst e
    cases c
  have pu : ∀ ds vs, (pureDs ds = true ∨ keep.isEmpty = true) → Reps W1 ds vs → Reps { W1 with T := fun a => if OwnAt keep R.F a then none else W1.T a } ds vs := fun ds vs h r => by
    rcases h with h | h
    · exact Reps.pure (W := W1) (W' := { W1 with T := fun a => if OwnAt keep R.F a then none else W1.T a }) (fun _ _ h => h) htup rfl ds h r
    · exact Reps.mono (W := W1) (W' := { W1 with T := fun a => if OwnAt keep R.F a then none else W1.T a }) ⟨fun _ _ h => h, fun a o h' => by
        show (if OwnAt keep R.F a then none else W1.T a) = some o
        rw [hne a (em h a)]
        exact h', rfl⟩ ds r
  have pu1 : ∀ d v, (pureD d = true ∨ keep.isEmpty = true) → Rep W1 d v → Rep { W1 with T := fun a => if OwnAt keep R.F a then none else W1.T a } d v := fun d v h r => by
    rcases h with h | h
    · exact Rep.pure (W := W1) (W' := { W1 with T := fun a => if OwnAt keep R.F a then none else W1.T a }) (fun _ _ h => h) htup rfl d h r
    · exact Rep.mono (W := W1) (W' := { W1 with T := fun a => if OwnAt keep R.F a then none else W1.T a }) ⟨fun _ _ h => h, fun a o h' => by
        show (if OwnAt keep R.F a then none else W1.T a) = some o
        rw [hne a (em h a)]
        exact h', rfl⟩ d r
  have chk' : ∀ (i : Nat) ds, S1[i]? = some ds → pureDs ds = true ∨ keep.isEmpty = true := fun i ds h => by
    unfold chk at hS
    rw [Bool.or_eq_true] at hS
    rcases hS with z | z
    · exact .inr z
    · exact .inl (pureSh_get z h)
  have E : Stp W0 W1 X.H_0 H1 := (wF_ent keep R).trans s
  have eH : ∀ i b, R.F i b → H1 b = H b := fun i b h => by
    obtain ⟨_, h2, _, u, h4, _⟩ := O.low i b h
    rw [h4]; exact s.keep b u h4 h2
  have OW : Own { W1 with T := fun a => if OwnAt keep R.F a then none else W1.T a } H1 X.H_0 R.F ρ σ := by
    refine ⟨fun i sl h => (O.at_ i sl h).step le (eH i) fun _ h => h, fun i a h => ?_, O.dis⟩
    obtain ⟨h1, h2, h3, u, h4, h5⟩ := O.low i a h
    refine ⟨?_, fun q => ?_, h3, u, by rw [eH i a h]; exact h4, h5⟩
    · show (if OwnAt keep R.F a then none else W1.T a) = none
      by_cases q : OwnAt keep R.F a
      · rw [if_pos q]
      · rw [hne a q]
        cases e : W1.T a with
        | none => rfl
        | some o =>
          rcases s.newT a o e with z | z
          · rw [wF_ne q, h1] at z; cases z
          · rw [h4] at z; cases z
    · rcases s.new a q with z | z
      · exact h2 z
      · rw [h4] at z; cases z
  refine ⟨⟨⟨fun a o h => ?_, B.len, fun i ds h => ?_, B.nod, fun a h => ?_, B.sa⟩, ⟨?_, E.keep, E.new, E.ex, fun a o h => ?_⟩, R.len, fun i d h => ?_, R.F, OW⟩, pu1, pu, fun a h => ?_, rfl, OW, le⟩
  · have h' : (if OwnAt keep R.F a then none else W1.T a) = some o := h
    by_cases q : OwnAt keep R.F a
    · rw [if_pos q] at h'; cases h'
    · rw [hne a q] at h'
      exact B.fro a o h'
  · obtain ⟨a, vs, h1, h2, h3⟩ := B.sh i ds h
    exact ⟨a, vs, h1, h2, pu ds vs (chk' i ds h) h3⟩
  · show (if OwnAt keep R.F a then none else W1.T a) = none
    by_cases q : OwnAt keep R.F a
    · rw [if_pos q]
    · rw [hne a q]
      exact B.apart a h
  · exact R.ent.le.trans le
  · have h' : (if OwnAt keep R.F a then none else W1.T a) = some o := h
    by_cases q : OwnAt keep R.F a
    · rw [if_pos q] at h'; cases h'
    · rw [hne a q] at h'
      exact E.newT a o h'
  · obtain ⟨v, h1, h2⟩ := R.val i d h
    exact ⟨v, h1, h2.mono le⟩
  · show (if OwnAt keep R.F a then none else W1.T a) = none
    by_cases q : OwnAt keep R.F a
    · rw [if_pos q]
    · rw [hne a q]; exact h
end
end DL


/-! DL6: statements -/
namespace DL
open PySem L2 PyProof.Rows

/-- an exception of a class of the program: the class's name, the fields of its own dict -/
structure Ec where
  n : Str
  fs : List (Str × D)
inductive Out where
  | nx (ρ : Env2) (S : Sh) | rt (d : D) (S : Sh) | ro (ds : List D) (S : Sh) | bk (ρ : Env2) (S : Sh) | ct (ρ : Env2) (S : Sh) | ex (c : Ec) (ρ : Env2) (S : Sh)
/-- what is wanted of an exception that leaves the code -/
class XW where
  W : WX
/-- an exception as the heap has it -/
def RepX (mg : Str → Option Value) (W : Wd) (c : Ec) (cls : Value) (d : Option Addr) (H : Hp) : Prop :=
  mg c.n = some cls ∧ match c.fs with
    | [] => d = none
    | f :: fs => ∃ dd vs, d = some dd ∧ H dd = some (.xd (((f :: fs).map (·.1)).zip vs)) ∧ Reps W ((f :: fs).map (·.2)) vs ∧ dd ∉ W.m
abbrev DS := Env2 → Sh → Option Out

section
variable {X : Cx} {W0 W W1 : Wd} {ρ : Env2} {S S1 : Sh} {σ : L2.St} {H H1 : Hp} {keep : List Nat}
def After [XW] (X : Cx) (W0 W : Wd) (D : Ends) : Out → Prop
  | .ex c ρ S => ∀ W' σ H cls d, Le W W' → RelS X W0 W' ρ S σ H → RepX X.mg W' c cls d H → XW.W cls d σ H
  | .nx ρ S => ∀ W' σ H, Le W W' → RelS X W0 W' ρ S σ H → D.nx σ H
  | .bk ρ S => ∀ W' σ H, Le W W' → RelS X W0 W' ρ S σ H → D.bk σ H
  | .ct ρ S => ∀ W' σ H, Le W W' → RelS X W0 W' ρ S σ H → D.ct σ H
  | .rt r S => ∀ W' v H, Stp W0 W' X.H_0 H → Base X.KW W' S H → Rep W' r v → D.rt v H
  | .ro ds S => ∀ W' a vs H, Stp W0 W' X.H_0 H → Base X.KW W' S H → H a = some (.lst vs) → Reps W' ds vs → W'.T a = none → a ∉ W'.m → X.H_0 a = none → D.rt (.ref a) H
theorem After.le [XW] {D : Ends} {o : Out} (l : Le W W1) (h : After X W0 W D o) : After X W0 W1 D o := by
  cases o with
  | nx ρ S => exact fun W' σ H l' => h W' σ H (l.trans l')
  | bk ρ S => exact fun W' σ H l' => h W' σ H (l.trans l')
  | ct ρ S => exact fun W' σ H l' => h W' σ H (l.trans l')
  | rt r S => exact h
  | ro r S => exact h
  | ex c ρ S => exact fun W' σ H cls d l' => h W' σ H cls d (l.trans l')
def liftS [XW] (X : Cx) (d : DS) : TS := fun D σ H => ∃ W0 W ρ S o, RelS X W0 W ρ S σ H ∧ d ρ S = some o ∧ After X W0 W D o
abbrev PS' [XW] (X : Cx) (st : Stmt) (d : DS) : Prop := PS X st (liftS X d)
abbrev PSs' [XW] (X : Cx) (st : List Stmt) (d : DS) : Prop := PSs X st (liftS X d)
theorem PS.imp {st : Stmt} {t t' : TS} (h : PS X st t) (hi : ∀ D σ H, t' D σ H → t D σ H) : PS X st t' := ⟨fun pins s σ H D I hw => h.run pins s σ H D I (hi _ _ _ hw)⟩
theorem PSs.imp {st : List Stmt} {t t' : TS} (h : PSs X st t) (hi : ∀ D σ H, t' D σ H → t D σ H) : PSs X st t' := ⟨fun pins s σ H D I hw => h.run pins s σ H D I (hi _ _ _ hw)⟩

/-! ### looks from a statement -/
theorem evF {d : DE} {r : D} {Q : VK} (R : RelS X W0 W ρ S σ H) (e : d (fzE keep 0 ρ) S = some (r, S1)) (k : ∀ W1 v H1, Le W W1 → RelS X W0 W1 (frz keep 0 ρ) S1 σ H1 → Rep W1 r v → Q v H1) : liftE X.KW d σ H Q :=
  ⟨_, _, S, r, S1, wF_rel keep R, e, fun W1 v H1 s R1 r1 => k W1 v H1 ((wF_le keep R).trans s.le) ((wF_relS keep R).step s R1.base) r1⟩
theorem evP {d : DE} {r : D} {Q : VK} (R : RelS X W0 W ρ S σ H) (e : d (fzE keep 0 ρ) S = some (r, S1)) (hS : chk keep S1 = true) (k : ∀ W1 v H1, Le W W1 → RelS X W0 W1 ρ S1 σ H1 → ((pureD r = true ∨ keep.isEmpty = true) → Rep W1 r v) → Q v H1) : liftE X.KW d σ H Q :=
  ⟨_, _, S, r, S1, wF_rel keep R, e, fun W1 v H1 s R1 r1 => by
    obtain ⟨W2, R2, p2, _, _, _, _, l2⟩ := wP keep R s R1.base hS
    exact k W2 v H1 l2 R2 fun h => p2 r v h r1⟩
theorem evT {d : DT} {r : Bool} {Q : Bool → Hp → Prop} (R : RelS X W0 W ρ S σ H) (e : d (fzE keep 0 ρ) S = some (r, S1)) (hS : chk keep S1 = true) (k : ∀ W1 H1, Le W W1 → RelS X W0 W1 ρ S1 σ H1 → Q r H1) : liftT X.KW d σ H Q :=
  ⟨_, _, S, r, S1, wF_rel keep R, e, fun W1 H1 s R1 => by
    obtain ⟨W2, R2, _, _, _, _, _, l2⟩ := wP keep R s R1.base hS
    exact k W2 H1 l2 R2⟩
theorem evA {d : DA} {r : List D} {Q : List V → Hp → Prop} (R : RelS X W0 W ρ S σ H) (e : d (fzE keep 0 ρ) S = some (r, S1)) (k : ∀ W1 vs H1, Le W W1 → RelS X W0 W1 (frz keep 0 ρ) S1 σ H1 → Reps W1 r vs → Q vs H1) : liftA X.KW d σ H Q :=
  ⟨_, _, S, r, S1, wF_rel keep R, e, fun W1 v H1 s R1 r1 => k W1 v H1 ((wF_le keep R).trans s.le) ((wF_relS keep R).step s R1.base) r1⟩
theorem evAP {d : DA} {r : List D} {Q : List V → Hp → Prop} (R : RelS X W0 W ρ S σ H) (e : d (fzE keep 0 ρ) S = some (r, S1)) (hS : chk keep S1 = true) (k : ∀ W1 vs H1, Le W W1 → RelS X W0 W1 ρ S1 σ H1 → (pureDs r = true → Reps W1 r vs) → Q vs H1) : liftA X.KW d σ H Q :=
  ⟨_, _, S, r, S1, wF_rel keep R, e, fun W1 vs H1 s R1 r1 => by
    obtain ⟨W2, R2, _, t2, _, _, _, l2⟩ := wP keep R s R1.base hS
    exact k W2 vs H1 l2 R2 fun h => t2 r vs (.inl h) r1⟩

/-! ### stores -/
theorem RelS.set (R : RelS X W0 W ρ S σ H) (i : Nat) {d : D} {v : V} (r : Rep W d v) : RelS X W0 W (ρ.set i (.val d)) S (σ.set i (some v)) H := by
  obtain ⟨F, O⟩ := R.ownF
  refine ⟨R.base, R.ent, by simp [R.len], fun j d' h => ?_, fun j a => j ≠ i ∧ F j a, fun j s h => ?_, fun j a h => O.low j a h.2, fun j k a h1 h2 => O.dis j k a h1.2 h2.2⟩
  · by_cases e : i = j
    · subst e
      by_cases l : i < ρ.length
      · rw [List.getElem?_set_self l] at h
        cases h
        exact ⟨v, List.getElem?_set_self (by rw [← R.len]; exact l), r⟩
      · rw [List.getElem?_eq_none (by simpa using l)] at h; cases h
    · rw [List.getElem?_set_ne e] at h
      rw [List.getElem?_set_ne e]
      exact R.val j d' h
  · by_cases e : i = j
    · subst e
      by_cases l : i < ρ.length
      · rw [List.getElem?_set_self l] at h
        cases h
        exact trivial
      · rw [List.getElem?_eq_none (by simpa using l)] at h; cases h
    · rw [List.getElem?_set_ne e] at h
      rw [List.getElem?_set_ne e]
      exact (O.at_ j s h).step (.refl _) (fun _ _ => rfl) fun b hb => ⟨Ne.symm e, hb⟩
/-- p belongs to no own slot -/
def Away (X : Cx) (W : Wd) (ρ : Env2) (σ : L2.St) (H : Hp) (f : Addr → Prop) : Prop := ∃ F, Own W H X.H_0 F ρ σ ∧ ∀ i a, f a → ¬ F i a
theorem RelS.away (R : RelS X W0 W ρ S σ H) (s : Stp W W1 H H1) {f : Addr → Prop} (hf : ∀ a, f a → H a = none) : Away X W1 ρ σ H1 f := by
  obtain ⟨F, O⟩ := R.ownF
  refine ⟨F, O.step s, fun i a h q => ?_⟩
  obtain ⟨_, _, _, o, z, _⟩ := O.low i a q
  rw [hf a h] at z; cases z
/-- a slot takes a new thing of its own -/
theorem RelS.setNew (R : RelS X W0 W ρ S σ H) (i : Nat) {s : Sl} {v : V} {f : Addr → Prop} (hs : ∀ d, s ≠ .val d) (r : SlOwn W H f s (some (some v))) (hf : ∀ a, f a → W.T a = none ∧ a ∉ W.m ∧ X.H_0 a = none ∧ ∃ o, H a = some o ∧ ownO o)
    (hn : Away X W ρ σ H f) : RelS X W0 W (ρ.set i s) S (σ.set i (some v)) H := by
  obtain ⟨F, O, hF⟩ := hn
  refine ⟨R.base, R.ent, by simp [R.len], fun j d' h => ?_, fun j a => (j = i ∧ f a) ∨ (j ≠ i ∧ F j a), fun j s' h => ?_, fun j a h => ?_, fun j k a h1 h2 => ?_⟩
  · by_cases e : i = j
    · subst e
      by_cases l : i < ρ.length
      · rw [List.getElem?_set_self l] at h
        cases h
        exact absurd rfl (hs _)
      · rw [List.getElem?_eq_none (by simpa using l)] at h; cases h
    · rw [List.getElem?_set_ne e] at h
      rw [List.getElem?_set_ne e]
      exact R.val j d' h
  · by_cases e : i = j
    · subst e
      by_cases l : i < ρ.length
      · rw [List.getElem?_set_self l] at h
        cases h
        rw [List.getElem?_set_self (by rw [← R.len]; exact l)]
        exact r.step (.refl _) (fun _ _ => rfl) fun b hb => .inl ⟨rfl, hb⟩
      · rw [List.getElem?_eq_none (by simpa using l)] at h; cases h
    · rw [List.getElem?_set_ne e] at h
      rw [List.getElem?_set_ne e]
      exact (O.at_ j s' h).step (.refl _) (fun _ _ => rfl) fun b hb => .inr ⟨Ne.symm e, hb⟩
  · rcases h with ⟨_, h⟩ | ⟨_, h⟩
    · exact hf a h
    · exact O.low j a h
  · rcases h1 with ⟨e1, h1⟩ | ⟨e1, h1⟩ <;> rcases h2 with ⟨e2, h2⟩ | ⟨e2, h2⟩
    · rw [e1, e2]
    · exact absurd h2 (hF k a h1)
    · exact absurd h1 (hF j a h2)
    · exact O.dis j k a h1 h2
/-- a slot takes a new list of its own -/
theorem RelS.setOwn (R : RelS X W0 W ρ S σ H) (i : Nat) {ds : List D} {a : Addr} {vs : List V} (h0 : H a = some (.lst vs)) (r : Reps W ds vs) (ht : W.T a = none) (hm : a ∉ W.m) (hH : X.H_0 a = none)
    (hn : Away X W ρ σ H (fun b => b = a)) : RelS X W0 W (ρ.set i (.own ds)) S (σ.set i (some (.ref a))) H :=
  R.setNew i (s := .own ds) (f := fun b => b = a) (fun _ z => nomatch z) ⟨a, vs, rfl, h0, r, rfl⟩ (fun b e => by subst e; exact ⟨ht, hm, hH, _, h0, trivial⟩) hn
/-- what belongs to an own slot is changed -/
theorem RelS.mut {F : Nat → Addr → Prop} (R : RelS X W0 W ρ S σ H) (O : Own W H X.H_0 F ρ σ) (i : Nat) {s : Sl} {f : Addr → Prop} (hs : ∀ d, s ≠ .val d) (hne : ∀ b, H1 b ≠ H b → F i b ∨ H b = none) (hex : ∀ b o, H b = some o → ∃ o', H1 b = some o')
    (r : SlOwn W H1 f s σ[i]?) (hf : ∀ b, f b → (F i b ∨ H b = none) ∧ ∃ o, H1 b = some o ∧ ownO o) : RelS X W0 W (ρ.set i s) S σ H1 := by
  have B := R.base
  have same : ∀ b o, H b = some o → ¬ F i b → H1 b = some o := fun b o h n => by
    by_cases q : H1 b = H b
    · rw [q]; exact h
    · rcases hne b q with z | z
      · exact absurd z n
      · rw [h] at z; cases z
  refine ⟨⟨fun b o h => ?_, B.len, fun j xs h => ?_, B.nod, B.apart, B.sa.1, fun b ws h => ?_⟩, ⟨R.ent.le, fun b o h n => ?_, R.ent.new, fun b o h => ?_, R.ent.newT⟩, by simp [R.len], fun j d h => ?_, fun j a => (j = i ∧ f a) ∨ (j ≠ i ∧ F j a), fun j s' h => ?_, fun j a h => ?_, fun j k a h1 h2 => ?_⟩
  · exact (B.fro b o h).keep fun v z => same b v z fun q => by have := (O.low i b q).1; rw [h] at this; cases this
  · obtain ⟨b, ws, h1, h2, h3⟩ := B.sh j xs h
    exact ⟨b, ws, h1, same b _ h2 fun q => (O.low i b q).2.1 (List.mem_of_getElem? h1), h3⟩
  · rcases B.sa.2 b ws h with ⟨x, z⟩ | z
    · refine .inl ⟨x, same b _ z fun q => ?_⟩
      obtain ⟨_, _, _, o, h1, h2⟩ := O.low i b q
      rw [z] at h1; cases h1
      exact h2
    · exact .inr z
  · refine same b o (R.ent.keep b o h n) fun q => ?_
    have := (O.low i b q).2.2.1
    rw [h] at this; cases this
  · obtain ⟨o', z⟩ := R.ent.ex b o h
    exact hex b o' z
  · by_cases e : i = j
    · subst e
      by_cases l : i < ρ.length
      · rw [List.getElem?_set_self l] at h
        cases h
        exact absurd rfl (hs _)
      · rw [List.getElem?_eq_none (by simpa using l)] at h; cases h
    · rw [List.getElem?_set_ne e] at h
      exact R.val j d h
  · by_cases e : i = j
    · subst e
      by_cases l : i < ρ.length
      · rw [List.getElem?_set_self l] at h
        cases h
        exact r.step (.refl _) (fun _ _ => rfl) fun b hb => .inl ⟨rfl, hb⟩
      · rw [List.getElem?_eq_none (by simpa using l)] at h; cases h
    · rw [List.getElem?_set_ne e] at h
      refine (O.at_ j s' h).step (.refl _) (fun b hb => ?_) fun b hb => .inr ⟨Ne.symm e, hb⟩
      obtain ⟨_, _, _, o, h1, _⟩ := O.low j b hb
      rw [h1]
      exact same b o h1 fun q => e (O.dis i j b q hb)
  · rcases h with ⟨_, h⟩ | ⟨e, h⟩
    · obtain ⟨h1, h2⟩ := hf a h
      rcases h1 with h1 | h1
      · obtain ⟨p1, p2, p3, _⟩ := O.low i a h1
        exact ⟨p1, p2, p3, h2⟩
      · refine ⟨?_, fun q => ?_, ?_, h2⟩
        · cases q : W.T a with
          | none => rfl
          | some u =>
            obtain ⟨_, z⟩ := (B.fro a u q).ex
            rw [h1] at z; cases z
        · obtain ⟨i, hi⟩ := List.getElem?_of_mem q
          have hl : i < S.length := by
            rw [← B.len]
            exact (List.getElem?_eq_some_iff.mp hi).1
          obtain ⟨a', vs, z1, z2, _⟩ := B.sh i S[i] (List.getElem?_eq_getElem hl)
          rw [hi] at z1; cases z1
          rw [h1] at z2; cases z2
        · cases q : X.H_0 a with
          | none => rfl
          | some u =>
            obtain ⟨o', z⟩ := R.ent.ex a u q
            rw [h1] at z; cases z
    · obtain ⟨p1, p2, p3, o, p4, p5⟩ := O.low j a h
      exact ⟨p1, p2, p3, o, same a o p4 fun q => e (O.dis j i a h q), p5⟩
  · rcases h1 with ⟨e1, h1⟩ | ⟨e1, h1⟩ <;> rcases h2 with ⟨e2, h2⟩ | ⟨e2, h2⟩
    · rw [e1, e2]
    · rcases (hf a h1).1 with z | z
      · exact absurd (O.dis i k a z h2).symm e2
      · obtain ⟨_, _, _, o, q, _⟩ := O.low k a h2
        rw [z] at q; cases q
    · rcases (hf a h2).1 with z | z
      · exact absurd (O.dis i j a z h1).symm e1
      · obtain ⟨_, _, _, o, q, _⟩ := O.low j a h1
        rw [z] at q; cases q
    · exact O.dis j k a h1 h2
/-- an own list is changed -/
theorem RelS.upd (R : RelS X W0 W ρ S σ H) {i : Nat} {es ds : List D} {a : Addr} {vs : List V} (ho : ρ[i]? = some (.own es)) (ha : σ[i]? = some (some (V.ref a))) (r : Reps W ds vs) : RelS X W0 W (ρ.set i (.own ds)) S σ (upd H a (.lst vs)) := by
  obtain ⟨F, O⟩ := R.ownF
  obtain ⟨a', us, k1, k2, k3, k4⟩ := O.at_ i _ ho
  rw [ha] at k1
  cases k1
  refine R.mut O i (f := fun b => b = a) (fun _ z => nomatch z) (fun b h => ?_) (fun b o h => ?_) ⟨a, vs, ha, upd_same, r, rfl⟩ fun b e => by subst e; exact ⟨.inl k4, _, upd_same, trivial⟩
  · by_cases e : b = a
    · subst e; exact .inl k4
    · exact absurd (upd_ne e) h
  · by_cases e : b = a
    · exact ⟨_, by rw [e]; exact upd_same⟩
    · exact ⟨o, by rw [upd_ne e]; exact h⟩

/-! ### statements -/
def sPass : DS := fun ρ S => some (.nx ρ S)
def sBrk : DS := fun ρ S => some (.bk ρ S)
def sCnt : DS := fun ρ S => some (.ct ρ S)
def sSeq (d1 d2 : DS) : DS := fun ρ S => (d1 ρ S).bind fun o => match o with
  | .nx ρ' S' => d2 ρ' S'
  | o => some o
def sRet (keep : List Nat) (d : DE) : DS := fun ρ S => (d (fzE keep 0 ρ) S).map fun p => .rt p.1 p.2
def sRetN : DS := fun _ S => some (.rt .non S)
def sRetO (i : Nat) : DS := fun ρ S => match ρ[i]? with
  | some (.own ds) => some (.ro ds S)
  | _ => none
def sSetF (keep : List Nat) (i : Nat) (d : DE) : DS := fun ρ S => (d (fzE keep 0 ρ) S).map fun p => .nx ((frz keep 0 ρ).set i (.val p.1)) p.2
def sSetP (keep : List Nat) (i : Nat) (d : DE) : DS := fun ρ S => (d (fzE keep 0 ρ) S).bind fun p => if chk keep p.2 && (pureD p.1 || keep.isEmpty) then some (.nx (ρ.set i (.val p.1)) p.2) else none
def sExp (keep : List Nat) (d : DE) : DS := fun ρ S => (d (fzE keep 0 ρ) S).bind fun p => if chk keep p.2 then some (.nx ρ p.2) else none
def sIf (keep : List Nat) (t : DT) (d1 d2 : DS) : DS := fun ρ S => (t (fzE keep 0 ρ) S).bind fun p => if chk keep p.2 then (if p.1 then d1 ρ p.2 else d2 ρ p.2) else none
variable {st : Stmt} {rest : List Stmt} {e c : Expr} {d1 d2 : DS} {da : DE} {dt : DT} {pos : Pos} {a b : List Stmt}
theorem dpss_nil [XW] : PSs' X [] sPass := PSs.imp pss_nil fun D σ H => by
  rintro ⟨W0, W, ρ, S, o, R, h, k⟩
  cases h
  exact k W σ H (.refl _) R
theorem dps_pass [XW] : PS' X (.Pass pos) sPass := PS.imp ps_pass fun D σ H => by
  rintro ⟨W0, W, ρ, S, o, R, h, k⟩
  cases h
  exact k W σ H (.refl _) R
theorem dps_break [XW] : PS' X (.Break pos) sBrk := PS.imp ps_break fun D σ H => by
  rintro ⟨W0, W, ρ, S, o, R, h, k⟩
  cases h
  exact k W σ H (.refl _) R
theorem dps_continue [XW] : PS' X (.Continue pos) sCnt := PS.imp ps_continue fun D σ H => by
  rintro ⟨W0, W, ρ, S, o, R, h, k⟩
  cases h
  exact k W σ H (.refl _) R
theorem seq_of [XW] {D : Ends} {σ : L2.St} {H : Hp} (h : liftS X (sSeq d1 d2) D σ H) : tSeq (liftS X d1) (liftS X d2) D σ H := by
  obtain ⟨W0, W, ρ, S, o, R, h, k⟩ := h
  obtain ⟨o1, e1, h⟩ := bindS h
  refine ⟨W0, W, ρ, S, o1, R, e1, ?_⟩
  cases o1 with
  | nx ρ1 S1 => exact fun W' σ' H' l R' => ⟨W0, W', ρ1, S1, o, R', h, k.le l⟩
  | _ => cases h; exact k
theorem dpss_cons [XW] (h1 : PS' X st d1) (h2 : PSs' X rest d2) : PSs' X (st :: rest) (sSeq d1 d2) := PSs.imp (pss_cons h1 h2) fun _ _ _ h => seq_of h
theorem dpss_one [XW] (h1 : PS' X st d1) : PSs' X [st] d1 := pss_one h1
theorem dps_ret [XW] (keep : List Nat) (he : PE' X e da) : PS' X (.Return (some e) pos) (sRet keep da) := PS.imp (ps_ret he) fun D σ H => by
  rintro ⟨W0, W, ρ, S, o, R, h, k⟩
  obtain ⟨⟨r, S1⟩, e1, h⟩ := mapS h
  cases h
  exact evF R e1 fun W1 v H1 l R1 r1 => k W1 v H1 R1.ent R1.base r1
theorem dps_retN [XW] : PS' X (.Return none pos) sRetN := PS.imp ps_retN fun D σ H => by
  rintro ⟨W0, W, ρ, S, o, R, h, k⟩
  cases h
  exact k W _ H R.ent R.base rfl
theorem dps_retO [XW] (i : Nat) (he : PE X e (tVar i)) : PS' X (.Return (some e) pos) (sRetO i) := PS.imp (ps_ret he) fun D σ H => by
  rintro ⟨W0, W, ρ, S, o, R, h, k⟩
  unfold sRetO at h
  split at h
  · rename_i ds q
    cases h
    obtain ⟨a, vs, k1, k2, k3, k4, k5, k6⟩ := R.own i ds q
    exact ⟨_, k1, k W a vs H R.ent R.base k2 k3 k4 k5 k6⟩
  · cases h
theorem setF_of [XW] (keep : List Nat) {i : Nat} {st : Stmt} (h : PS X st (tAsg (liftE X.KW da) (gName i))) : PS' X st (sSetF keep i da) := PS.imp h fun D σ H => by
  rintro ⟨W0, W, ρ, S, o, R, h, k⟩
  obtain ⟨⟨r, S1⟩, e1, h⟩ := mapS h
  cases h
  exact evF R e1 fun W1 v H1 l R1 r1 => k W1 _ H1 l (R1.set i r1)
theorem dps_setF [XW] (keep : List Nat) {i : Nat} {x : Str} {pos' : Pos} (hN : X.N.Nodup) (hi : X.N[i]? = some x) (hx : Loc X.env.scope x) (he : PE' X e da) (hs : swapsWith e (some (.Name x pos')) pos.line X.env = pure false := by rfl) (hf : X.fn x = true ∨ X.env.scope.names.lookup x = some .local := by first | exact .inl rfl | exact .inr rfl | assumption) :
    PS' X (.Assign [.Name x pos'] e pos) (sSetF keep i da) := setF_of keep (ps_set hN hi hx he hs hf)
theorem setP_of [XW] (keep : List Nat) {i : Nat} {st : Stmt} (h : PS X st (tAsg (liftE X.KW da) (gName i))) : PS' X st (sSetP keep i da) := PS.imp h fun D σ H => by
  rintro ⟨W0, W, ρ, S, o, R, h, k⟩
  obtain ⟨⟨r, S1⟩, e1, h⟩ := bindS h
  simp only [Option.ite_none_right_eq_some, Bool.and_eq_true, Bool.or_eq_true] at h
  obtain ⟨⟨h1, h2⟩, h⟩ := h
  cases h
  exact evP R e1 h1 fun W1 v H1 l R1 r1 => k W1 _ H1 l (R1.set i (r1 h2))
theorem dps_setP [XW] (keep : List Nat) {i : Nat} {x : Str} {pos' : Pos} (hN : X.N.Nodup) (hi : X.N[i]? = some x) (hx : Loc X.env.scope x) (he : PE' X e da) (hs : swapsWith e (some (.Name x pos')) pos.line X.env = pure false := by rfl) (hf : X.fn x = true ∨ X.env.scope.names.lookup x = some .local := by first | exact .inl rfl | exact .inr rfl | assumption) :
    PS' X (.Assign [.Name x pos'] e pos) (sSetP keep i da) := setP_of keep (ps_set hN hi hx he hs hf)
theorem dps_exp [XW] (keep : List Nat) (he : PE' X e da) (hs : swapsWith e none pos.line X.env = pure false := by rfl) : PS' X (.Expr e pos) (sExp keep da) := PS.imp (ps_expr he hs) fun D σ H => by
  rintro ⟨W0, W, ρ, S, o, R, h, k⟩
  obtain ⟨⟨r, S1⟩, e1, h⟩ := bindS h
  simp only [Option.ite_none_right_eq_some] at h
  obtain ⟨h1, h⟩ := h
  cases h
  exact evP R e1 h1 fun W1 v H1 l R1 _ => k W1 _ H1 l R1
theorem dps_if [XW] (keep : List Nat) (hc : PT' X c dt) (ha : PSs' X a d1) (hb : PSs' X b d2) : PS' X (.If c a b pos) (sIf keep dt d1 d2) := PS.imp (ps_if hc ha hb) fun D σ H => by
  rintro ⟨W0, W, ρ, S, o, R, h, k⟩
  obtain ⟨⟨r, S1⟩, e1, h⟩ := bindS h
  simp only [Option.ite_none_right_eq_some] at h
  obtain ⟨h1, h⟩ := h
  refine evT R e1 h1 fun W1 H1 l R1 => ?_
  cases r with
  | true =>
    rw [if_pos rfl]
    exact ⟨W0, W1, ρ, S1, o, R1, by simpa using h, k.le l⟩
  | false =>
    rw [if_neg Bool.false_ne_true]
    exact ⟨W0, W1, ρ, S1, o, R1, by simpa using h, k.le l⟩
end
end DL


/-! DL7: fresh lists, what is walked, comprehensions, for -/
namespace DL
open PySem L2 PyProof.Rows

/-! ### a new object that the world does not know -/
theorem Base.free {K : Fr} {W : Wd} {S : Sh} {H : Hp} {p : Addr} (B : Base K W S H) (hp : H p = none) : W.T p = none ∧ p ∉ W.m := by
  refine ⟨?_, fun h => ?_⟩
  · cases q : W.T p with
    | none => rfl
    | some u =>
      obtain ⟨_, z⟩ := (B.fro p u q).ex
      rw [hp] at z; cases z
  · obtain ⟨i, hi⟩ := List.getElem?_of_mem h
    have hl : i < S.length := by
      rw [← B.len]
      exact (List.getElem?_eq_some_iff.mp hi).1
    obtain ⟨a, vs, h1, h2, _⟩ := B.sh i S[i] (List.getElem?_eq_getElem hl)
    rw [hi] at h1; cases h1
    rw [hp] at h2; cases h2
/-- the store at an address that the world does not know -/
theorem Base.put {K : Fr} {W : Wd} {S : Sh} {H : Hp} {p : Addr} {o : HO} (B : Base K W S H) (ht : W.T p = none) (hm : p ∉ W.m) (hz : ∀ x ys, H p ≠ some (.frz x (.lst ys))) : Base K W S (upd H p o) := by
  refine ⟨fun a u h => ?_, B.len, fun i ds h => ?_, B.nod, B.apart, B.sa.1, fun a vs h => ?_⟩
  · have ne : a ≠ p := fun e => by rw [e, ht] at h; cases h
    exact (B.fro a u h).keep fun v z => by rw [upd_ne ne]; exact z
  · obtain ⟨a, vs, h1, h2, h3⟩ := B.sh i ds h
    exact ⟨a, vs, h1, by rw [upd_ne (fun e => hm (by rw [← e]; exact List.mem_of_getElem? h1))]; exact h2, h3⟩
  · have h1 := B.sa.2 a vs h
    rcases h1 with ⟨x, z⟩ | z
    · exact .inl ⟨x, by rw [upd_ne (fun e => by rw [e] at z; exact hz _ _ z)]; exact z⟩
    · exact .inr z
theorem Stp.new_ (W : Wd) {H : Hp} {p : Addr} {o : HO} (hp : H p = none) : Stp W W H (upd H p o) := by
  refine ⟨.refl _, fun b u h _ => ?_, fun _ h => .inl h, fun b u h => ?_, fun _ _ h => .inl h⟩
  · rw [upd_ne (ne_of_none h hp)]; exact h
  · exact ⟨u, by rw [upd_ne (ne_of_none h hp)]; exact h⟩
theorem Base.alloc {K : Fr} {W : Wd} {S : Sh} {H : Hp} {p : Addr} (o : HO) (B : Base K W S H) (hp : H p = none) : Base K W S (upd H p o) ∧ Stp W W H (upd H p o) :=
  ⟨B.put (B.free hp).1 (B.free hp).2 (fun _ _ z => by rw [hp] at z; cases z), .new_ W hp⟩
/-- an object becomes known -/
theorem Base.know {K : Fr} {W : Wd} {S : Sh} {H : Hp} {p : Addr} {vs : List V} (B : Base K W S H) (hp : H p = some (.lst vs)) (ht : W.T p = none) (hm : p ∉ W.m) :
    Base K { W with T := fun b => if b = p then some (.lst vs) else W.T b } S H ∧ Le W { W with T := fun b => if b = p then some (.lst vs) else W.T b } := by
  have le : Le W { W with T := fun b => if b = p then some (.lst vs) else W.T b } := ⟨fun _ _ h => h, fun a u h => by
    show (if a = p then some (HO.lst vs) else W.T a) = some u
    rw [if_neg (fun z => by rw [z, ht] at h; cases h)]
    exact h, rfl⟩
  refine ⟨⟨fun a u h => ?_, B.len, fun i ds h => ?_, B.nod, fun a h => ?_, B.sa⟩, le⟩
  · have h' : (if a = p then some (HO.lst vs) else W.T a) = some u := h
    by_cases e : a = p
    · rw [if_pos e] at h'
      cases h'
      rw [e]
      exact hp
    · rw [if_neg e] at h'
      exact B.fro a u h'
  · obtain ⟨a, vs, h1, h2, h3⟩ := B.sh i ds h
    exact ⟨a, vs, h1, h2, h3.mono le⟩
  · show (if a = p then some (HO.lst vs) else W.T a) = none
    rw [if_neg (fun z => hm (by rw [← z]; exact h))]
    exact B.apart a h

abbrev DN := Env' → Sh → Option (List D × Sh)
structure Fresh (W' : Wd) (H H' : Hp) (p : Addr) (ds : List D) (vs : List V) : Prop where
  at_ : H' p = some (.lst vs)
  rep : Reps W' ds vs
  t : W'.T p = none
  m : p ∉ W'.m
  new : H p = none
def liftN (K : Fr) (d : DN) : TE := fun σ H Q => ∃ W ρ S ds S', Rel K W ρ S σ H ∧ d ρ S = some (ds, S') ∧ ∀ W' p vs H', Stp W W' H H' → Rel K W' ρ S' σ H' → Fresh W' H H' p ds vs → Q (.ref p) H'
abbrev PN (X : Cx) (e : Expr) (d : DN) : Prop := PE X e (liftN X.KW d)
def dFz (d : DN) : DE := fun ρ S => (d ρ S).map fun p => (.lst p.1, p.2)
section
variable {X : Cx} {a b c e : Expr} {es : List Expr} {da db dc : DE} {dt dt' dt2 : DT} {dl : DA} {dn : DN} {pos : Pos}
theorem liftN_of_fz {K : Fr} {σ : L2.St} {H : Hp} {Q : VK} (h : liftE K (dFz dn) σ H Q) : liftN K dn σ H Q := by
  obtain ⟨W, ρ, S, r, S', R, hd, k⟩ := h
  obtain ⟨⟨ds, S1⟩, e1, hd⟩ := mapS hd
  cases hd
  refine ⟨W, ρ, S, ds, S1, R, e1, fun W' p vs H' s R' f => ?_⟩
  obtain ⟨B2, l2⟩ := R'.base.know f.at_ f.t f.m
  refine k _ (.ref p) H' ⟨s.le.trans l2, s.keep, s.new, s.ex, fun b o h => ?_⟩ ⟨B2, R'.env.mono l2⟩ ⟨p, vs, rfl, if_pos rfl, f.rep.mono l2⟩
  have h' : (if b = p then some (HO.lst vs) else W'.T b) = some o := h
  by_cases e : b = p
  · exact .inr (by rw [e]; exact f.new)
  · rw [if_neg e] at h'
    exact s.newT b o h'
theorem PN.fz (h : PN X e dn) : PE' X e (dFz dn) := PE.imp h fun σ H Q => liftN_of_fz
def nLst (dl : DA) : DN := fun ρ S => (dl ρ S).bind fun p => if p.1.length ≤ sizeLine then some p else none
theorem dn_lst (h : PA' X es dl) : PN X (.List es pos) (nLst dl) := PE.imp (pe_lst h) fun σ H Q => by
  rintro ⟨W, ρ, S, r, S', R, hd, k⟩
  obtain ⟨⟨x, S1⟩, e1, hd⟩ := bindS hd
  simp only [Option.ite_none_right_eq_some] at hd
  obtain ⟨hl, hd⟩ := hd
  cases hd
  refine ⟨W, ρ, S, _, _, R, e1, fun W1 vs H1 s1 R1 r1 => ⟨by rw [r1.length]; exact hl, fun p hp => ?_⟩⟩
  obtain ⟨B', s'⟩ := R1.base.alloc (.lst vs) hp
  refine k W1 p vs _ (s1.trans s') ⟨B', R1.env⟩ ⟨upd_same, r1, (R1.base.free hp).1, (R1.base.free hp).2, ?_⟩
  cases q : H p with
  | none => rfl
  | some o =>
    obtain ⟨o', z⟩ := s1.ex p o q
    rw [hp] at z; cases z

/-! ### what is walked -/
def Walk (K : Fr) (W : Wd) (J : It) (ds : List D) : Prop := ∀ (i : Nat) W' S' H', Le W W' → Base K W' S' H' →
  (∀ d, ds[i]? = some d → J.go i H' ∧ ∀ x H3, J.yld i H' x H3 → ∃ W3, Stp W' W3 H' H3 ∧ Base K W3 S' H3 ∧ Rep W3 d x) ∧ (ds[i]? = none → J.stop i H')
def liftI (K : Fr) (d : DN) : TI := fun σ H R => ∃ W ρ S ds S', Rel K W ρ S σ H ∧ d ρ S = some (ds, S') ∧ ∀ W' H' J, Stp W W' H H' → Rel K W' ρ S' σ H' → Walk K W' J ds → R J H'
abbrev PI' (X : Cx) (tg iter : Expr) (d : DN) : Prop := PI X tg iter (liftI X.KW d)
/-- the items of a list, a tuple, a text -/
def itemsD : D → Option (List D)
  | .str x => some (x.cps.toList.map fun c => .str ⟨#[c]⟩)
  | d => seqD d
def iSeq (d : DE) : DN := fun ρ S => (d ρ S).bind fun p => (itemsD p.1).map fun ds => (ds, p.2)
theorem walk_lst {K : Fr} {W : Wd} {a : Addr} {ds : List D} {vs : List V} (h : ∀ W' S' H', Le W W' → Base K W' S' H' → SqL K H' a vs) (r : Reps W ds vs) : Walk K W (Itl K a) ds := fun i W' S' H' l B => by
  have hs := h W' S' H' l B
  refine ⟨fun d hd => ?_, fun hd => ?_⟩
  · obtain ⟨v, h1, h2⟩ := r.get hd
    refine ⟨⟨vs, v, hs, h1⟩, fun x H3 y => ?_⟩
    obtain ⟨rfl, y⟩ := y
    have := y vs hs
    rw [h1] at this
    cases this
    exact ⟨W', .refl _ _, B, h2.mono l⟩
  · refine ⟨vs, hs, ?_⟩
    rw [r.length]
    exact List.getElem?_eq_none_iff.mp hd
theorem walk_tup {K : Fr} {W : Wd} {a : Addr} {ds : List D} {vs : List V} (h : ∀ W' S' H', Le W W' → Base K W' S' H' → SqT K H' a vs) (r : Reps W ds vs) : Walk K W (Itt K a) ds := fun i W' S' H' l B => by
  have hs := h W' S' H' l B
  refine ⟨fun d hd => ?_, fun hd => ?_⟩
  · obtain ⟨v, h1, h2⟩ := r.get hd
    refine ⟨⟨vs, v, hs, h1⟩, fun x H3 y => ?_⟩
    obtain ⟨rfl, y⟩ := y
    have := y vs hs
    rw [h1] at this
    cases this
    exact ⟨W', .refl _ _, B, h2.mono l⟩
  · refine ⟨vs, hs, ?_⟩
    rw [r.length]
    exact List.getElem?_eq_none_iff.mp hd
theorem dpi_seq {tg : Expr} (he : PE' X e da) : PI' X tg e (iSeq da) := ⟨fun pins s σ H R I h => by
  obtain ⟨W, ρ, S, ds, S', R', hd, k⟩ := h
  obtain ⟨⟨r, S1⟩, e1, hd⟩ := bindS hd
  obtain ⟨ds', e2, hd⟩ := mapS hd
  cases hd
  cases r with
  | str x =>
    cases e2
    refine (pi_str he).run pins s σ H R I ⟨W, ρ, S, _, _, R', e1, fun W1 v H1 s1 R1 r1 => ⟨x, r1, k W1 H1 _ s1 R1 fun i W' S' H' l B => ?_⟩⟩
    refine ⟨fun d hd => ?_, fun hd => ?_⟩
    · rw [List.getElem?_map] at hd
      obtain ⟨c, hc, rfl⟩ := mapS hd
      have hc' : x.cps[i]? = some c := by simpa using hc
      refine ⟨(Array.getElem?_eq_some_iff.mp hc').1, fun y H3 q => ?_⟩
      obtain ⟨rfl, c', h1, rfl⟩ := q
      rw [hc'] at h1
      cases h1
      exact ⟨W', .refl _ _, B, rfl⟩
    · have : (x.cps.toList.map fun c => D.str ⟨#[c]⟩).length ≤ i := List.getElem?_eq_none_iff.mp hd
      show x.cps.size ≤ i
      simpa using this
  | lst xs =>
    cases e2
    refine (pi_list he).run pins s σ H R I ⟨W, ρ, S, _, _, R', e1, fun W1 v H1 s1 R1 r1 => ?_⟩
    obtain ⟨a, vs, rfl, t, q⟩ := r1
    exact ⟨a, rfl, ⟨vs, SqL.of (R1.base.lst t)⟩, k W1 H1 _ s1 R1 (walk_lst (fun W' S' H' l B => SqL.of (B.lst (l.T _ _ t))) q)⟩
  | rol xs =>
    cases e2
    refine (pi_list he).run pins s σ H R I ⟨W, ρ, S, _, _, R', e1, fun W1 v H1 s1 R1 r1 => ?_⟩
    obtain ⟨a, vs, rfl, t, q⟩ := r1
    exact ⟨a, rfl, ⟨vs, (R1.base.sa.2 a vs t).seq⟩, k W1 H1 _ s1 R1 (walk_lst (fun W' S' H' l B => (B.sa.2 a vs (l.sc.trans t)).seq) q)⟩
  | tup xs =>
    cases e2
    refine (pi_tup he).run pins s σ H R I ⟨W, ρ, S, _, _, R', e1, fun W1 v H1 s1 R1 r1 => ?_⟩
    obtain ⟨a, vs, rfl, t, q⟩ := r1
    exact ⟨a, rfl, ⟨vs, R1.base.tup t⟩, k W1 H1 _ s1 R1 (walk_tup (fun W' S' H' l B => B.tup (l.T _ _ t)) q)⟩
  | _ => cases e2⟩
def rngO (lo : Int) (n : Nat) : List D := (List.range n).map fun i => .int (lo + (i : Nat))
theorem rngO_get (lo : Int) (n i : Nat) : (rngO lo n)[i]? = if i < n then some (.int (lo + (i : Nat))) else none := by
  unfold rngO
  rw [List.getElem?_map]
  by_cases h : i < n
  · rw [if_pos h, List.getElem?_range h]; rfl
  · rw [if_neg h, List.getElem?_eq_none (by simpa using h)]; rfl
theorem walk_rng {K : Fr} {W : Wd} {lo : Int} {n : Nat} : Walk K W (Itr lo n) (rngO lo n) := fun i W' S' H' l B => by
  rw [rngO_get]
  refine ⟨fun d hd => ?_, fun hd => ?_⟩
  · by_cases h : i < n
    · rw [if_pos h] at hd
      cases hd
      refine ⟨h, fun x H3 y => ?_⟩
      obtain ⟨rfl, rfl⟩ := y
      exact ⟨W', .refl _ _, B, rfl⟩
    · rw [if_neg h] at hd; cases hd
  · by_cases h : i < n
    · rw [if_pos h] at hd; cases hd
    · exact Nat.le_of_not_lt h
def rng1O : List D → Option (List D)
  | [.int j] => if -(2 ^ 62) ≤ j ∧ j < 2 ^ 62 then some (rngO 0 j.toNat) else none
  | _ => none
def rng2O : List D → Option (List D)
  | [.int i, .int j] => if -(2 ^ 62) ≤ i ∧ i < 2 ^ 62 ∧ -(2 ^ 62) ≤ j ∧ j < 2 ^ 62 then some (rngO i (j - i).toNat) else none
  | _ => none
def iRg (g : List D → Option (List D)) (dl : DA) : DN := fun ρ S => (dl ρ S).bind fun p => (g p.1).map fun ds => (ds, p.2)
theorem rng1_inv {r ds : List D} (h : rng1O r = some ds) : ∃ j, r = [.int j] ∧ (-(2 ^ 62) ≤ j ∧ j < 2 ^ 62) ∧ ds = rngO 0 j.toNat := by
  unfold rng1O at h
  split at h
  · simp only [Option.ite_none_right_eq_some, Option.some.injEq] at h
    exact ⟨_, rfl, h.1, h.2.symm⟩
  · cases h
theorem rng2_inv {r ds : List D} (h : rng2O r = some ds) : ∃ i j, r = [.int i, .int j] ∧ (-(2 ^ 62) ≤ i ∧ i < 2 ^ 62 ∧ -(2 ^ 62) ≤ j ∧ j < 2 ^ 62) ∧ ds = rngO i (j - i).toNat := by
  unfold rng2O at h
  split at h
  · simp only [Option.ite_none_right_eq_some, Option.some.injEq] at h
    exact ⟨_, _, rfl, h.1, h.2.symm⟩
  · cases h
theorem dpi_range1 {tg : Expr} {p : Pos} (hg : Gl X "range") (hm : X.mg "range" = none) (ha : PA' X [a] dl) (hs : starEach [a] X.env = [(false, eval a X.env)] := by rfl) : PI' X tg (.Call (.Name "range" p) [a] [] pos) (iRg rng1O dl) := ⟨fun pins s σ H R I h => by
  obtain ⟨W, ρ, S, ds, S', R', hd, k⟩ := h
  obtain ⟨⟨r, S1⟩, e1, hd⟩ := bindS hd
  obtain ⟨ds', e2, hd⟩ := mapS hd
  cases hd
  obtain ⟨j, rfl, h1, rfl⟩ := rng1_inv e2
  refine (pi_range1 hg hm ha hs).run pins s σ H R I ⟨W, ρ, S, _, _, R', e1, fun W1 vs H1 s1 R1 r1 => ?_⟩
  obtain ⟨v, r, rfl, h3, h4⟩ := r1
  obtain rfl : r = [] := h4
  cases h3
  exact ⟨j, rfl, h1.1, h1.2, k W1 H1 _ s1 R1 walk_rng⟩⟩
theorem dpi_range2 {tg : Expr} {p : Pos} (hg : Gl X "range") (hm : X.mg "range" = none) (ha : PA' X [a, b] dl) (hs : starEach [a, b] X.env = [(false, eval a X.env), (false, eval b X.env)] := by rfl) (hs2 : starEach [b] X.env = [(false, eval b X.env)] := by rfl) : PI' X tg (.Call (.Name "range" p) [a, b] [] pos) (iRg rng2O dl) := ⟨fun pins s σ H R I h => by
  obtain ⟨W, ρ, S, ds, S', R', hd, k⟩ := h
  obtain ⟨⟨r, S1⟩, e1, hd⟩ := bindS hd
  obtain ⟨ds', e2, hd⟩ := mapS hd
  cases hd
  obtain ⟨i, j, rfl, h1, rfl⟩ := rng2_inv e2
  refine (pi_range2 hg hm ha hs hs2).run pins s σ H R I ⟨W, ρ, S, _, _, R', e1, fun W1 vs H1 s1 R1 r1 => ?_⟩
  obtain ⟨v, r, rfl, h3, h4⟩ := r1
  obtain ⟨v', r', rfl, h5, h6⟩ := h4
  obtain rfl : r' = [] := h6
  cases h3
  cases h5
  exact ⟨i, j, rfl, h1, k W1 H1 _ s1 R1 walk_rng⟩⟩

/-! ### targets -/
inductive Tg where
  | n (i : Nat) | t (gs : List Tg)
mutual
/-- the stores of a target, in order -/
def bindT : Tg → D → Option (List (Nat × D))
  | .n i, d => some [(i, d)]
  | .t gs, .tup ds => bindTs gs ds
  | .t _, _ => none
def bindTs : List Tg → List D → Option (List (Nat × D))
  | [], [] => some []
  | g :: gs, d :: ds => (bindT g d).bind fun u => (bindTs gs ds).map fun w => u ++ w
  | _, _ => none
end
mutual
def tgOf (K : Fr) : Tg → TG
  | .n i => gName i
  | .t gs => gTup K gs.length (tgsOf K gs)
def tgsOf (K : Fr) : List Tg → TGs
  | [] => gNil
  | g :: gs => gCons (tgOf K g) (tgsOf K gs)
end
/-- the slots with some stores -/
def putV (σ : L2.St) : List (Nat × V) → L2.St
  | [] => σ
  | (i, v) :: r => putV (σ.set i (some v)) r
theorem putV_append (u w : List (Nat × V)) : ∀ σ : L2.St, putV σ (u ++ w) = putV (putV σ u) w := by
  induction u with
  | nil => intro σ; rfl
  | cons x u ih => intro σ; obtain ⟨i, v⟩ := x; exact ih _
inductive RepU (W : Wd) : List (Nat × D) → List (Nat × V) → Prop where
  | nil : RepU W [] []
  | cons {i : Nat} {d : D} {v : V} {u : List (Nat × D)} {w : List (Nat × V)} : Rep W d v → RepU W u w → RepU W ((i, d) :: u) ((i, v) :: w)
theorem RepU.append {W : Wd} {u u' : List (Nat × D)} {w w' : List (Nat × V)} (h : RepU W u w) (h' : RepU W u' w') : RepU W (u ++ u') (w ++ w') := by
  induction h with
  | nil => exact h'
  | cons r _ ih => exact .cons r ih
mutual
theorem tg_run {K : Fr} {W : Wd} {S : Sh} {H : Hp} (B : Base K W S H) : ∀ (g : Tg) (d : D) (v : V) (σ : L2.St) (u : List (Nat × D)) (Q : L2.St → Hp → Prop), bindT g d = some u → Rep W d v → (∀ w, RepU W u w → Q (putV σ w) H) → tgOf K g v σ H Q
  | .n i, d, v, σ, u, Q, h, r, k => by
    cases h
    exact k [(i, v)] (.cons r .nil)
  | .t gs, d, v, σ, u, Q, h, r, k => by
    cases d with
    | tup ds =>
      obtain ⟨a, vs, rfl, t, q⟩ := r
      rw [bindT] at h
      obtain ⟨h1, h2⟩ := tgs_run B gs ds vs σ u Q h q k
      exact ⟨a, vs, rfl, B.tup t, by rw [q.length, h1], h2⟩
    | _ => simp [bindT] at h
theorem tgs_run {K : Fr} {W : Wd} {S : Sh} {H : Hp} (B : Base K W S H) : ∀ (gs : List Tg) (ds : List D) (vs : List V) (σ : L2.St) (u : List (Nat × D)) (Q : L2.St → Hp → Prop), bindTs gs ds = some u → Reps W ds vs → (∀ w, RepU W u w → Q (putV σ w) H) → ds.length = gs.length ∧ tgsOf K gs vs σ H Q
  | [], [], vs, σ, u, Q, h, r, k => by
    rw [bindTs] at h
    cases h
    obtain rfl : vs = [] := r
    exact ⟨rfl, rfl, k [] .nil⟩
  | g :: gs, d :: ds, vs, σ, u, Q, h, r, k => by
    rw [bindTs] at h
    obtain ⟨u1, h1, h⟩ := bindS h
    obtain ⟨u2, h2, rfl⟩ := mapS h
    obtain ⟨v, rr, rfl, r1, r2⟩ := r
    have z := fun (w1 : List (Nat × V)) (q1 : RepU W u1 w1) => tgs_run B gs ds rr (putV σ w1) u2 Q h2 r2 fun w2 q2 => by
      rw [← putV_append]
      exact k _ (q1.append q2)
    have len : ds.length = gs.length := (tgs_run B gs ds rr σ u2 (fun _ _ => True) h2 r2 fun _ _ => trivial).1
    exact ⟨by rw [List.length_cons, List.length_cons, len], v, rr, rfl, tg_run B g d v σ u1 _ h1 r1 fun w1 q1 => (z w1 q1).2⟩
  | [], _ :: _, _, _, _, _, h, _, _ => by simp [bindTs] at h
  | _ :: _, [], _, _, _, _, h, _, _ => by simp [bindTs] at h
end
end
end DL


/-! DL8: for, comprehensions, own lists in statements -/
namespace DL
open PySem L2 PyProof.Rows

def putD (ρ : Env') : List (Nat × D) → Env'
  | [] => ρ
  | (i, d) :: r => putD (ρ.set i (some d)) r
def putS (ρ : Env2) : List (Nat × D) → Env2
  | [] => ρ
  | (i, d) :: r => putS (ρ.set i (.val d)) r
section
variable {X : Cx} {W0 W W1 : Wd} {ρ : Env2} {S S1 : Sh} {σ : L2.St} {H H1 : Hp} {keep : List Nat}
theorem RelS.puts {u : List (Nat × D)} {w : List (Nat × V)} (q : RepU W u w) : ∀ {ρ : Env2} {σ : L2.St}, RelS X W0 W ρ S σ H → RelS X W0 W (putS ρ u) S (putV σ w) H := by
  induction q with
  | nil => intro ρ σ R; exact R
  | cons r _ ih => intro ρ σ R; exact ih (R.set _ r)
theorem EnvR.set {ρ : Env'} (R : EnvR W ρ σ) (i : Nat) {d : D} {v : V} (r : Rep W d v) : EnvR W (ρ.set i (some d)) (σ.set i (some v)) := by
  refine ⟨by simp [R.1], fun j d' h => ?_⟩
  by_cases e : i = j
  · subst e
    by_cases l : i < ρ.length
    · rw [List.getElem?_set_self l] at h
      cases h
      exact ⟨v, List.getElem?_set_self (by rw [← R.1]; exact l), r⟩
    · rw [List.getElem?_eq_none (by simpa using l)] at h; cases h
  · rw [List.getElem?_set_ne e] at h
    rw [List.getElem?_set_ne e]
    exact R.2 j d' h
theorem EnvR.unset {ρ : Env'} (R : EnvR W ρ σ) (i : Nat) : EnvR W (ρ.set i none) (σ.set i none) := by
  refine ⟨by simp [R.1], fun j d' h => ?_⟩
  by_cases e : i = j
  · subst e
    by_cases l : i < ρ.length
    · rw [List.getElem?_set_self l] at h; cases h
    · rw [List.getElem?_eq_none (by simpa using l)] at h; cases h
  · rw [List.getElem?_set_ne e] at h
    rw [List.getElem?_set_ne e]
    exact R.2 j d' h
theorem EnvR.puts {u : List (Nat × D)} {w : List (Nat × V)} (q : RepU W u w) : ∀ {ρ : Env'} {σ : L2.St}, EnvR W ρ σ → EnvR W (putD ρ u) (putV σ w) := by
  induction q with
  | nil => intro ρ σ R; exact R
  | cons r _ ih => intro ρ σ R; exact ih (R.set _ r)
def wipeD (ρ : Env') : List Nat → Env'
  | [] => ρ
  | v :: vs => (wipeD ρ vs).set v none
theorem EnvR.wipes {ρ : Env'} (R : EnvR W ρ σ) : ∀ vs : List Nat, EnvR W (wipeD ρ vs) (wipe σ vs)
  | [] => R
  | v :: vs => (EnvR.wipes R vs).unset v

/-! ### for -/
def loopF (tg : Tg) (body : DS) : List D → Env2 → Sh → Option Out
  | [], ρ, S => some (.nx ρ S)
  | d :: r, ρ, S => (bindT tg d).bind fun u => (body (putS ρ u) S).bind fun o => match o with
    | .nx ρ' S' => loopF tg body r ρ' S'
    | .ct ρ' S' => loopF tg body r ρ' S'
    | .bk ρ' S' => some (.nx ρ' S')
    | o => some o
def sFor (keep : List Nat) (it : DN) (tg : Tg) (body : DS) : DS := fun ρ S => (it (fzE keep 0 ρ) S).bind fun p => loopF tg body p.1 (frz keep 0 ρ) p.2
/-- what is walked stands apart from the own lists: a range -/
def sForP (keep : List Nat) (it : DN) (tg : Tg) (body : DS) : DS := fun ρ S => (it (fzE keep 0 ρ) S).bind fun p => if chk keep p.2 then loopF tg body p.1 ρ p.2 else none
variable {iter tge : Expr} {body : List Stmt} {it : DN} {db : DS} {tg : Tg} {pos : Pos} {dl : DA} {a b : Expr}
theorem loop_run [XW] (hb : ∀ D σ H, liftS X db D σ H → ∀ (t : TS), t = liftS X db → t D σ H) {J : It} {ds : List D} {D : Ends} {o : Out} (w : Walk X.KW W J ds) (R : RelS X W0 W ρ S σ H) (h : loopF tg db ds ρ S = some o) (k : After X W0 W D o) :
    ∃ V : Nat → Nat → L2.St → Hp → Prop, (∃ m, V 0 m σ H) ∧ ∀ i m σ H, V i m σ H →
      (J.stop i H ∧ D.nx σ H) ∨ (J.go i H ∧ ∃ N : L2.St → Hp → Prop, (∀ σ' H', N σ' H' → ∃ m', m' < m ∧ V (i + 1) m' σ' H') ∧ ∀ x H', J.yld i H x H' → tgOf X.KW tg x σ H' fun σ2 H2 => liftS X db { D with nx := N, ct := N, bk := D.nx } σ2 H2) := by
  refine ⟨fun i m σ H => m = ds.length - i ∧ i ≤ ds.length ∧ ∃ W' ρ' S', Le W W' ∧ RelS X W0 W' ρ' S' σ H ∧ loopF tg db (ds.drop i) ρ' S' = some o, ⟨ds.length, by simp, Nat.zero_le _, W, ρ, S, .refl _, R, by simpa using h⟩, ?_⟩
  rintro i m σ H ⟨rfl, hi, W', ρ', S', l, R', h'⟩
  obtain ⟨w1, w2⟩ := w i W' S' H l R'.base
  by_cases hlt : i < ds.length
  · have hd : ds[i]? = some ds[i] := List.getElem?_eq_getElem hlt
    obtain ⟨g, y⟩ := w1 _ hd
    rw [List.drop_eq_getElem_cons hlt, loopF] at h'
    obtain ⟨u, h1, h'⟩ := bindS h'
    obtain ⟨o1, h2, h'⟩ := bindS h'
    refine .inr ⟨g, fun σ' H' => ∃ W' ρ' S', Le W W' ∧ RelS X W0 W' ρ' S' σ' H' ∧ loopF tg db (ds.drop (i + 1)) ρ' S' = some o, fun σ' H' q => ⟨ds.length - (i + 1), by omega, rfl, hlt, q⟩, fun x H' hy => ?_⟩
    obtain ⟨W3, s3, B3, r3⟩ := y x H' hy
    have R3 := R'.step s3 B3
    refine tg_run B3 tg _ x σ u _ h1 r3 fun w hw => ?_
    refine ⟨W0, W3, putS ρ' u, S', o1, RelS.puts hw R3, h2, ?_⟩
    have l3 : Le W W3 := l.trans s3.le
    cases o1 with
    | nx ρ4 S4 => exact fun W4 σ4 H4 l4 R4 => ⟨W4, ρ4, S4, l3.trans l4, R4, h'⟩
    | ct ρ4 S4 => exact fun W4 σ4 H4 l4 R4 => ⟨W4, ρ4, S4, l3.trans l4, R4, h'⟩
    | bk ρ4 S4 =>
      cases h'
      exact fun W4 σ4 H4 l4 R4 => k W4 σ4 H4 (l3.trans l4) R4
    | rt r S4 =>
      cases h'
      exact k
    | ro r S4 =>
      cases h'
      exact k
    | ex c ρ4 S4 =>
      cases h'
      exact fun W4 σ4 H4 cls d l4 => k W4 σ4 H4 cls d (l3.trans l4)
  · have e : i = ds.length := by omega
    subst e
    rw [List.drop_length, loopF] at h'
    cases h'
    exact .inl ⟨w2 (by simp), k W' σ H l R'⟩
theorem dps_for [XW] (keep : List Nat) (hp : PassesOwn (model X.prog X.w) X.A X.env X.xe) (hc : X.calm = true) (hi : PI' X tge iter it) (hg : PG X tge (tgOf X.KW tg)) (hb : PSs' X body db) (hs : ∀ x, foldedSetIterable iter X.env x = pure x := by intro _; rfl) :
    PS' X (.For tge iter body [] pos) (sFor keep it tg db) := PS.imp (ps_for hp hc hi hg hb hs) fun D σ H => by
  rintro ⟨W0, W, ρ, S, o, R, h, k⟩
  obtain ⟨⟨ds, S1⟩, e1, h⟩ := bindS h
  refine ⟨_, _, S, ds, S1, wF_rel keep R, e1, fun W1 H1 J s R1 w => ?_⟩
  have R2 := (wF_relS keep R).step s R1.base
  exact loop_run (fun _ _ _ h t e => by rw [e]; exact h) w R2 h (k.le ((wF_le keep R).trans s.le))
theorem dps_forR1 [XW] (keep : List Nat) {p p2 : Pos} (hp : PassesOwn (model X.prog X.w) X.A X.env X.xe) (hc : X.calm = true) (hg : Gl X "range") (hm : X.mg "range" = none) (ha : PA' X [a] dl) (htg : PG X tge (tgOf X.KW tg)) (hb : PSs' X body db)
    (hs : ∀ x, foldedSetIterable (.Call (.Name "range" p) [a] [] p2) X.env x = pure x := by intro _; rfl) (hst : starEach [a] X.env = [(false, eval a X.env)] := by rfl) :
    PS' X (.For tge (.Call (.Name "range" p) [a] [] p2) body [] pos) (sForP keep (iRg rng1O dl) tg db) := PS.imp (ps_for hp hc (pi_range1 hg hm ha hst) htg hb hs) fun D σ H => by
  rintro ⟨W0, W, ρ, S, o, R, h, k⟩
  obtain ⟨⟨ds, S1⟩, e1, h⟩ := bindS h
  obtain ⟨⟨r, S2⟩, e2, e1⟩ := bindS e1
  obtain ⟨ds', e3, e1⟩ := mapS e1
  cases e1
  simp only [Option.ite_none_right_eq_some] at h
  obtain ⟨hS, h⟩ := h
  obtain ⟨j, rfl, h1, rfl⟩ := rng1_inv e3
  refine evAP R e2 hS fun W1 vs H1 l R1 r1 => ?_
  obtain ⟨v, r, rfl, h3, h4⟩ := r1 rfl
  obtain rfl : r = [] := h4
  cases h3
  exact ⟨j, rfl, h1.1, h1.2, loop_run (fun _ _ _ h t e => by rw [e]; exact h) walk_rng R1 h (k.le l)⟩
end
end DL


/-! DL9: comprehensions, stores of own lists, functions -/
namespace DL
open PySem L2 PyProof.Rows

section
variable {X : Cx} {W0 W W1 : Wd} {S S1 : Sh} {σ : L2.St} {H H1 : Hp} {keep : List Nat} {dl : DA} {a b e : Expr} {es : List Expr} {pos : Pos} {da : DE} {dn it : DN} {dt : DT} {tg : Tg}
/-! ### [e for x in xs if t] -/
def loopC (tg : Tg) (tt : DT) (el : DE) (ρ : Env') : List D → List D → Sh → Option (List D × Sh)
  | [], acc, S => some (acc, S)
  | d :: r, acc, S => (bindT tg d).bind fun u => (tt (putD ρ u) S).bind fun p => if p.1 then (el (putD ρ u) p.2).bind fun q => if acc.length < sizeLine then loopC tg tt el ρ r (acc ++ [q.1]) q.2 else none else loopC tg tt el ρ r acc p.2
def nComp (it : DN) (tg : Tg) (vs : List Nat) (tt : DT) (el : DE) : DN := fun ρ S => (it ρ S).bind fun p => loopC tg tt el (wipeD ρ vs) p.1 [] p.2
def dtYes : DT := fun _ S => some (true, S)
theorem wipe_put {ks : List Nat} : ∀ {w : List (Nat × V)} {σ : L2.St}, (∀ p, p ∈ w → p.1 ∈ ks) → wipe (putV σ w) ks = wipe σ ks := by
  have one : ∀ (i : Nat) (v : V) (σ : L2.St), i ∈ ks → wipe (σ.set i (some v)) ks = wipe σ ks := by
    intro i v σ hi
    induction ks generalizing σ with
    | nil => cases hi
    | cons k ks ih =>
      show (wipe (σ.set i (some v)) ks).set k none = (wipe σ ks).set k none
      by_cases hk : i ∈ ks
      · rw [ih σ hk]
      · have e : i = k := by
          rcases List.mem_cons.mp hi with e | e
          · exact e
          · exact absurd e hk
        subst e
        have com : ∀ (ks : List Nat) (σ : L2.St), i ∉ ks → wipe (σ.set i (some v)) ks = (wipe σ ks).set i (some v) := by
          intro ks
          induction ks with
          | nil => intro σ _; rfl
          | cons k ks ih =>
            intro σ h
            show (wipe (σ.set i (some v)) ks).set k none = ((wipe σ ks).set k none).set i (some v)
            rw [ih σ (fun z => h (List.mem_cons_of_mem _ z)), List.set_comm]
            intro z
            exact h (by rw [z]; exact List.mem_cons_self)
        rw [com ks σ hk, List.set_set]
  intro w
  induction w with
  | nil => intro σ _; rfl
  | cons x w ih =>
    intro σ h
    obtain ⟨i, v⟩ := x
    show wipe (putV (σ.set i (some v)) w) ks = wipe σ ks
    rw [ih fun p hp => h p (List.mem_cons_of_mem _ hp)]
    exact one i v σ (h (i, v) List.mem_cons_self)
theorem wipe_wipe (ks : List Nat) : ∀ σ : L2.St, wipe (wipe σ ks) ks = wipe σ ks := by
  have one : ∀ (ks : List Nat) (k : Nat) (σ : L2.St), wipe (σ.set k none) ks = (wipe σ ks).set k none := by
    intro ks
    induction ks with
    | nil => intro k σ; rfl
    | cons j ks ih =>
      intro k σ
      show (wipe (σ.set k none) ks).set j none = ((wipe σ ks).set j none).set k none
      rw [ih k σ]
      by_cases e : k = j
      · subst e; rfl
      · rw [List.set_comm _ _ e]
  induction ks with
  | nil => intro σ; rfl
  | cons k ks ih =>
    intro σ
    show (wipe ((wipe σ ks).set k none) ks).set k none = (wipe σ ks).set k none
    rw [one ks k, ih σ, List.set_set]
mutual
def tgSlots : Tg → List Nat
  | .n i => [i]
  | .t gs => tgsSlots gs
def tgsSlots : List Tg → List Nat
  | [] => []
  | g :: gs => tgSlots g ++ tgsSlots gs
end
mutual
theorem bindT_slots : ∀ (g : Tg) (d : D) (u : List (Nat × D)), bindT g d = some u → u.map (·.1) = tgSlots g
  | .n i, d, u, h => by cases h; rfl
  | .t gs, .tup ds, u, h => by
    rw [bindT] at h
    rw [tgSlots]
    exact bindTs_slots gs ds u h
  | .t _, .non, _, h => by simp [bindT] at h
  | .t _, .bl _, _, h => by simp [bindT] at h
  | .t _, .int _, _, h => by simp [bindT] at h
  | .t _, .str _, _, h => by simp [bindT] at h
  | .t _, .ref _, _, h => by simp [bindT] at h
  | .t _, .lst _, _, h => by simp [bindT] at h
  | .t _, .rol _, _, h => by simp [bindT] at h
  | .t _, .dcu _ _, _, h => by simp [bindT] at h
  | .t _, .dct _ _, _, h => by simp [bindT] at h
theorem bindTs_slots : ∀ (gs : List Tg) (ds : List D) (u : List (Nat × D)), bindTs gs ds = some u → u.map (·.1) = tgsSlots gs
  | [], [], u, h => by rw [bindTs] at h; cases h; rfl
  | g :: gs, d :: ds, u, h => by
    rw [bindTs] at h
    obtain ⟨u1, h1, h⟩ := bindS h
    obtain ⟨u2, h2, rfl⟩ := mapS h
    rw [List.map_append, bindT_slots g d u1 h1, bindTs_slots gs ds u2 h2, tgsSlots]
  | [], _ :: _, _, h => by simp [bindTs] at h
  | _ :: _, [], _, h => by simp [bindTs] at h
end
theorem RepU.slots {u : List (Nat × D)} {w : List (Nat × V)} (h : RepU W u w) : w.map (·.1) = u.map (·.1) := by
  induction h with
  | nil => rfl
  | cons _ _ ih => rw [List.map_cons, List.map_cons, ih]
theorem comp_of {K : Fr} {ks : List Nat} (hv : (tgSlots tg).all (fun i => ks.contains i) = true) {σ : L2.St} {H : Hp} {Q : VK} (h : liftN K (nComp it tg ks dt da) σ H Q) : tLc (liftI K it) (tgOf K tg) (liftT K dt) (liftE K da) ks σ H Q := by
  obtain ⟨W, ρ, S, fin, S', R, hd, k⟩ := h
  obtain ⟨⟨ds, S1⟩, e1, hd⟩ := bindS hd
  refine ⟨W, ρ, S, ds, S1, R, e1, fun W1 H1 J s1 R1 w D hD => ?_⟩
  have hD0 : H D = none := by
    cases q : H D with
    | none => rfl
    | some o =>
      obtain ⟨o', z⟩ := s1.ex D o q
      rw [hD] at z; cases z
  obtain ⟨BD, sD⟩ := R1.base.alloc (.lst []) hD
  obtain ⟨f1, f2⟩ := R1.base.free hD
  refine ⟨fun i m H' => m = ds.length - i ∧ i ≤ ds.length ∧ ∃ W' S2 acc accD, Stp W W' H H' ∧ Le W1 W' ∧ Base K W' S2 H' ∧ H' D = some (.lst acc) ∧ Reps W' accD acc ∧ W'.T D = none ∧ D ∉ W'.m ∧ loopC tg dt da (wipeD ρ ks) (ds.drop i) accD S2 = some (fin, S'),
    ⟨ds.length, by simp, Nat.zero_le _, W1, S1, [], [], s1.trans sD, .refl _, BD, upd_same, rfl, f1, f2, by simpa using hd⟩, ?_⟩
  rintro i m H' ⟨rfl, hi', W', S2, acc, accD, s', l', B', hacc, racc, t', m', hd'⟩
  obtain ⟨w1, w2⟩ := w i W' S2 H' l' B'
  by_cases hlt : i < ds.length
  · obtain ⟨g, y⟩ := w1 _ (List.getElem?_eq_getElem hlt)
    rw [List.drop_eq_getElem_cons hlt, loopC] at hd'
    obtain ⟨u, h1, hd'⟩ := bindS hd'
    obtain ⟨⟨tb, S3⟩, h2, hd'⟩ := bindS hd'
    refine .inr ⟨g, fun H4 => ∃ W4 S4 acc4 accD4, Stp W W4 H H4 ∧ Le W1 W4 ∧ Base K W4 S4 H4 ∧ H4 D = some (.lst acc4) ∧ Reps W4 accD4 acc4 ∧ W4.T D = none ∧ D ∉ W4.m ∧ loopC tg dt da (wipeD ρ ks) (ds.drop (i + 1)) accD4 S4 = some (fin, S'), fun H4 q => ⟨ds.length - (i + 1), by omega, rfl, hlt, q⟩, fun x H3 hy => ?_⟩
    obtain ⟨W3, s3, B3, r3⟩ := y x H3 hy
    -- the list made so far stands through a step
    have stay : ∀ {Wa Wb : Wd} {Ha Hb : Hp}, Ha D = some (.lst acc) → Wa.T D = none → D ∉ Wa.m → Stp Wa Wb Ha Hb → Hb D = some (.lst acc) ∧ Wb.T D = none ∧ D ∉ Wb.m := fun {Wa Wb Ha Hb} q1 q2 q3 q4 => by
      refine ⟨q4.keep D _ q1 q3, ?_, fun z => ?_⟩
      · cases q : Wb.T D with
        | none => rfl
        | some o =>
          rcases q4.newT D o q with z | z
          · rw [q2] at z; cases z
          · rw [q1] at z; cases z
      · rcases q4.new D z with z | z
        · exact q3 z
        · rw [q1] at z; cases z
    obtain ⟨a3, t3, m3⟩ := stay hacc t' m' s3
    refine tg_run B3 tg _ x _ u _ h1 r3 fun wv hw => ?_
    refine ⟨(wipe_put fun p hp => ?_).trans (wipe_wipe _ σ), ?_⟩
    · have : p.1 ∈ tgSlots tg := by
        rw [← bindT_slots tg _ u h1, ← hw.slots]
        exact List.mem_map_of_mem hp
      have := List.all_eq_true.mp hv _ this
      simpa using this
    have E3 : EnvR W3 (putD (wipeD ρ ks) u) (putV (wipe σ ks) wv) := EnvR.puts hw ((R1.env.mono (l'.trans s3.le)).wipes _)
    refine ⟨W3, _, S2, tb, S3, ⟨B3, E3⟩, h2, fun W4 H4 s4 R4 => ?_⟩
    obtain ⟨a4, t4, m4⟩ := stay a3 t3 m3 s4
    have st4 := (s'.trans s3).trans s4
    have l4 := (l'.trans s3.le).trans s4.le
    cases tb with
    | false =>
      rw [if_neg Bool.false_ne_true]
      simp only [Bool.false_eq_true, if_false] at hd'
      exact ⟨W4, S3, acc, accD, st4, l4, R4.base, a4, racc.mono (s3.le.trans s4.le), t4, m4, hd'⟩
    | true =>
      rw [if_pos rfl]
      simp only [if_true] at hd'
      obtain ⟨⟨y5, S5⟩, h5, hd'⟩ := bindS hd'
      simp only [Option.ite_none_right_eq_some] at hd'
      obtain ⟨hsz, hd'⟩ := hd'
      refine ⟨W4, _, S3, y5, S5, R4, h5, fun W5 v5 H5 s5 R5 r5 => ?_⟩
      obtain ⟨a5, t5, m5⟩ := stay a4 t4 m4 s5
      have racc5 : Reps W5 accD acc := racc.mono ((s3.le.trans s4.le).trans s5.le)
      have st5 := st4.trans s5
      refine ⟨acc, a5, by rw [racc.length]; exact hsz, W5, S5, acc ++ [v5], accD ++ [y5], ⟨st5.le, fun b o h n => ?_, st5.new, fun b o h => ?_, st5.newT⟩, l4.trans s5.le, R5.base.put t5 m5 (fun x ys z => by rw [a5] at z; cases z), upd_same, racc5.append (Reps.one r5), t5, m5, hd'⟩
      · have ne : b ≠ D := fun e => by rw [e, hD0] at h; cases h
        rw [upd_ne ne]
        exact st5.keep b o h n
      · have ne : b ≠ D := fun e => by rw [e, hD0] at h; cases h
        rw [upd_ne ne]
        exact st5.ex b o h
  · have e : i = ds.length := by omega
    subst e
    rw [List.drop_length, loopC] at hd'
    cases hd'
    exact .inl ⟨w2 (by simp), k W' D acc H' s' ⟨B', R1.env.mono l'⟩ ⟨hacc, racc, t', m', hD0⟩⟩

theorem dn_comp {elt tge iter : Expr} {ifs : List Expr} {scope : Scope} {own : List (Str × Nat)} (hc : X.calm = true) (hN : X.N.Nodup) (hi : PI' X tge iter it) (ok : BlkOk X.N X.env.scope scope own)
    (hg : ∀ (s : Shared) (H : Hp) (C : Addr) (cl : List (Str × Addr)) (fp : List Addr), PG (X.blk s H scope (compEnvC scope cl C X.env) fp) tge (tgOf X.KW tg)) (ht : ∀ (s : Shared) (H : Hp) (C : Addr) (cl : List (Str × Addr)) (fp : List Addr), PTs (X.blk s H scope (compEnvC scope cl C X.env) fp) ifs (liftT X.KW dt))
    (he : ∀ (s : Shared) (H : Hp) (C : Addr) (cl : List (Str × Addr)) (fp : List Addr), PE' (X.blk s H scope (compEnvC scope cl C X.env) fp) elt da) (hv : (tgSlots tg).all (fun i => (own.map (·.2)).contains i) = true := by rfl) (hs : ∀ x, foldedSetIterable iter X.env x = pure x := by intro _; rfl) :
    PN X (.ListComp elt [⟨tge, iter, ifs, 0⟩] scope pos) (nComp it tg (own.map (·.2)) dt da) := PE.imp (pe_lc (te := liftE X.KW da) (tt := liftT X.KW dt) (g := tgOf X.KW tg) hc hN hi ok hg ht he hs) fun σ H Q => comp_of hv
/-- name = [..] on one line -/
theorem asg_comp {i : Nat} {y : Str} {py spos : Pos} {elt tge iter : Expr} {ifs : List Expr} {scope : Scope} {own : List (Str × Nat)} (hc : X.calm = true) (hN : X.N.Nodup) (hy : X.N[i]? = some y) (hyl : X.env.scope.names.lookup y = some .local)
    (hsw : swapsWith (.ListComp elt [⟨tge, iter, ifs, 0⟩] scope pos) (some (.Name y py)) spos.line X.env = pure true) (hi : PI' X tge iter it) (ok : BlkOk X.N X.env.scope scope own)
    (hg : ∀ (s : Shared) (H : Hp) (C : Addr) (cl : List (Str × Addr)) (fp : List Addr), PG (X.blk s H scope (compEnvC scope cl C X.env) fp) tge (tgOf X.KW tg)) (ht : ∀ (s : Shared) (H : Hp) (C : Addr) (cl : List (Str × Addr)) (fp : List Addr), PTs (X.blk s H scope (compEnvC scope cl C X.env) fp) ifs (liftT X.KW dt))
    (he : ∀ (s : Shared) (H : Hp) (C : Addr) (cl : List (Str × Addr)) (fp : List Addr), PE' (X.blk s H scope (compEnvC scope cl C X.env) fp) elt da) (hv : (tgSlots tg).all (fun i => (own.map (·.2)).contains i) = true := by rfl) (hs : ∀ x, foldedSetIterable iter X.env x = pure x := by intro _; rfl) :
    PS X (.Assign [.Name y py] (.ListComp elt [⟨tge, iter, ifs, 0⟩] scope pos) spos) (tAsg (liftN X.KW (nComp it tg (own.map (·.2)) dt da)) (gName i)) := PS.imp (ps_setLc (te := liftE X.KW da) (tt := liftT X.KW dt) (g := tgOf X.KW tg) hc hN hy hyl hsw hi ok hg ht he hs) fun D σ H => comp_of hv
theorem asg_fz {i : Nat} {st : Stmt} (h : PS X st (tAsg (liftN X.KW dn) (gName i))) : PS X st (tAsg (liftE X.KW (dFz dn)) (gName i)) := PS.imp h fun D σ H => liftN_of_fz

/-! ### own lists in statements -/
variable {ρ : Env2}
theorem evN {d : DN} {r : List D} {Q : VK} (R : RelS X W0 W ρ S σ H) (e : d (fzE keep 0 ρ) S = some (r, S1)) (k : ∀ W1 p vs H1, Le W W1 → RelS X W0 W1 (frz keep 0 ρ) S1 σ H1 → Fresh W1 H H1 p r vs → Away X W1 (frz keep 0 ρ) σ H1 (fun b => b = p) → Q (.ref p) H1) : liftN X.KW d σ H Q :=
  ⟨_, _, S, r, S1, wF_rel keep R, e, fun W1 p vs H1 s R1 f => k W1 p vs H1 ((wF_le keep R).trans s.le) ((wF_relS keep R).step s R1.base) f ((wF_relS keep R).away s fun a e => by rw [e]; exact f.new)⟩
theorem RelS.fresh (R : RelS X W0 W1 ρ S1 σ H1) (R0 : RelS X W0 W ρ S σ H) {p : Addr} {ds : List D} {vs : List V} (f : Fresh W1 H H1 p ds vs) : X.H_0 p = none := by
  cases q : X.H_0 p with
  | none => rfl
  | some o =>
    obtain ⟨o', z⟩ := R0.ent.ex p o q
    rw [f.new] at z; cases z
def sSetO (keep : List Nat) (i : Nat) (d : DN) : DS := fun ρ S => (d (fzE keep 0 ρ) S).map fun p => .nx ((frz keep 0 ρ).set i (.own p.1)) p.2
theorem setO_of [XW] (keep : List Nat) {i : Nat} {st : Stmt} (h : PS X st (tAsg (liftN X.KW dn) (gName i))) : PS' X st (sSetO keep i dn) := PS.imp h fun D σ H => by
  rintro ⟨W0, W, ρ, S, o, R, h, k⟩
  obtain ⟨⟨r, S1⟩, e1, h⟩ := mapS h
  cases h
  refine evN R e1 fun W1 p vs H1 l R1 f hn => ?_
  have hH : X.H_0 p = none := by
    cases q : X.H_0 p with
    | none => rfl
    | some o =>
      obtain ⟨o', z⟩ := R.ent.ex p o q
      rw [f.new] at z; cases z
  exact k W1 _ H1 l (R1.setOwn i f.at_ f.rep f.t f.m hH hn)
theorem dps_setO [XW] (keep : List Nat) {i : Nat} {x : Str} {pos' : Pos} (hN : X.N.Nodup) (hi : X.N[i]? = some x) (hx : Loc X.env.scope x) (he : PN X e dn) (hs : swapsWith e (some (.Name x pos')) pos.line X.env = pure false := by rfl) (hf : X.fn x = true ∨ X.env.scope.names.lookup x = some .local := by first | exact .inl rfl | exact .inr rfl | assumption) :
    PS' X (.Assign [.Name x pos'] e pos) (sSetO keep i dn) := setO_of keep (ps_set hN hi hx he hs hf)
/-- xs.append(e), xs an own list -/
def appO (o : List D → D → Option (List D)) (i : Nat) (ρ : Env2) (d : D) (S : Sh) : Option Out := match ρ[i]? with
  | some (.own ds) => (o ds d).map fun ds' => .nx (ρ.set i (.own ds')) S
  | _ => none
def sMutF (o : List D → D → Option (List D)) (keep : List Nat) (i : Nat) (d : DE) : DS := fun ρ S => (d (fzE keep 0 ρ) S).bind fun p => appO o i (frz keep 0 ρ) p.1 p.2
def sMutP (o : List D → D → Option (List D)) (keep : List Nat) (i : Nat) (d : DE) : DS := fun ρ S => (d (fzE keep 0 ρ) S).bind fun p => if chk keep p.2 && (pureD p.1 || keep.isEmpty) then appO o i ρ p.1 p.2 else none
def appendO (ds : List D) (d : D) : Option (List D) := if ds.length < sizeLine then some (ds ++ [d]) else none
theorem appO_inv {o : List D → D → Option (List D)} {i : Nat} {d : D} {out : Out} (h : appO o i ρ d S = some out) : ∃ ds ds', ρ[i]? = some (.own ds) ∧ o ds d = some ds' ∧ out = .nx (ρ.set i (.own ds')) S := by
  unfold appO at h
  split at h
  · rename_i ds q
    obtain ⟨ds', h1, rfl⟩ := mapS h
    exact ⟨ds, ds', q, h1, rfl⟩
  · cases h
theorem app_run [XW] {En : Ends} {i : Nat} {d : D} {v x : V} {out : Out} (R : RelS X W0 W ρ S σ H) (hx : σ[i]? = some (some x)) (r : Rep W d v) (h : appO appendO i ρ d S = some out) (k : After X W0 W En out) : rAppend x [v] H (fun _ H1 => En.nx σ H1) := by
  obtain ⟨ds, ds', h1, h2, rfl⟩ := appO_inv h
  simp only [appendO, Option.ite_none_right_eq_some, Option.some.injEq] at h2
  obtain ⟨hl, rfl⟩ := h2
  obtain ⟨a, vs, k1, k2, k3, k4, k5, k6⟩ := R.own i ds h1
  rw [hx] at k1
  cases k1
  refine ⟨a, vs, v, rfl, rfl, k2, by rw [k3.length]; exact hl, k W σ _ (.refl _) (R.upd h1 hx (k3.append (Reps.one r)))⟩
theorem own_slot {i : Nat} {ds : List D} (R : RelS X W0 W ρ S σ H) (h : ρ[i]? = some (.own ds)) : ∃ a vs, σ[i]? = some (some (V.ref a)) ∧ H a = some (.lst vs) := by
  obtain ⟨a, vs, k1, k2, _⟩ := R.own i ds h
  exact ⟨a, vs, k1, k2⟩
theorem frz_own {i : Nat} {ds : List D} (h : (frz keep 0 ρ)[i]? = some (.own ds)) : ρ[i]? = some (.own ds) := by
  rw [frz_get, Nat.zero_add] at h
  obtain ⟨sl, h3, h4⟩ := mapS h
  cases sl with
  | no => cases h4
  | val d => cases h4
  | owx x => cases c : keep.contains i <;> rw [c] at h4 <;> cases h4
  | own xs =>
    cases c : keep.contains i with
    | true =>
      rw [c] at h4
      have h5 : Sl.val (.lst xs) = Sl.own ds := h4
      cases h5
    | false =>
      rw [c] at h4
      have h5 : Sl.own xs = Sl.own ds := h4
      rw [← h5]; exact h3
abbrev appTE (i : Nat) (K : Fr) (te : TE) : TE := tBM K "list" rAppend (tVar i) (tCons te tNil)
theorem dps_appF [XW] (keep : List Nat) {i : Nat} {o : Expr} {apos cpos : Pos} (ho : PE X (.Call (.Attribute o "append" apos) [e] [] cpos) (appTE i X.KW (liftE X.KW da)))
    (hs : swapsWith (.Call (.Attribute o "append" apos) [e] [] cpos) none pos.line X.env = pure false := by rfl) : PS' X (.Expr (.Call (.Attribute o "append" apos) [e] [] cpos) pos) (sMutF appendO keep i da) := PS.imp (ps_expr ho hs) fun D σ H => by
  rintro ⟨W0, W, ρ, S, o, R, h, k⟩
  obtain ⟨⟨r, S1⟩, e1, h⟩ := bindS h
  obtain ⟨ds, ds', h1, h2, h3⟩ := appO_inv h
  obtain ⟨a, vs, q1, q2⟩ := own_slot R (frz_own h1)
  refine ⟨_, q1, .inl ⟨rfl, _, SqL.of q2⟩, evF R e1 fun W1 v H1 l R1 r1 => ?_⟩
  exact app_run R1 q1 r1 h (k.le l)
theorem dps_appP [XW] (keep : List Nat) {i : Nat} {o : Expr} {apos cpos : Pos} (ho : PE X (.Call (.Attribute o "append" apos) [e] [] cpos) (appTE i X.KW (liftE X.KW da)))
    (hs : swapsWith (.Call (.Attribute o "append" apos) [e] [] cpos) none pos.line X.env = pure false := by rfl) : PS' X (.Expr (.Call (.Attribute o "append" apos) [e] [] cpos) pos) (sMutP appendO keep i da) := PS.imp (ps_expr ho hs) fun D σ H => by
  rintro ⟨W0, W, ρ, S, o, R, h, k⟩
  obtain ⟨⟨r, S1⟩, e1, h⟩ := bindS h
  simp only [Option.ite_none_right_eq_some, Bool.and_eq_true, Bool.or_eq_true] at h
  obtain ⟨⟨hS, hp⟩, h⟩ := h
  obtain ⟨ds, ds', h1, h2, h3⟩ := appO_inv h
  obtain ⟨a, vs, q1, q2⟩ := own_slot R h1
  refine ⟨_, q1, .inl ⟨rfl, _, SqL.of q2⟩, evP R e1 hS fun W1 v H1 l R1 r1 => ?_⟩
  exact app_run R1 q1 (r1 hp) h (k.le l)
end
end DL


/-! DL10: functions -/
namespace DL
open PySem L2 PyProof.Rows

abbrev DF := List D → Sh → Option (D × Sh)
abbrev NF := List D → Sh → Option (List D × Sh)
def envOf (n : Nat) (args : List D) : Env2 := args.map .val ++ List.replicate (n - args.length) .no
def outD : Out → Option (D × Sh)
  | .rt d S => some (d, S)
  | .nx _ S => some (.non, S)
  | .ro l S => some (.lst l, S)
  | _ => none
def outN : Out → Option (List D × Sh)
  | .ro l S => some (l, S)
  | _ => none
def fnD (np n : Nat) (body : DS) : DF := fun args S => if args.length = np then (body (envOf n args) S).bind outD else none
def fnN (np n : Nat) (body : DS) : NF := fun args S => if args.length = np then (body (envOf n args) S).bind outN else none
def spD (K : Fr) (np : Nat) (m : DF) : Sp := fun vs H Q _ => ∃ W S ds r S', Base K W S H ∧ Reps W ds vs ∧ ds.length = np ∧ m ds S = some (r, S') ∧ ∀ W' v H', Stp W W' H H' → Base K W' S' H' → Rep W' r v → Q v H'
def spN (K : Fr) (np : Nat) (m : NF) : Sp := fun vs H Q _ => ∃ W S ds r S', Base K W S H ∧ Reps W ds vs ∧ ds.length = np ∧ m ds S = some (r, S') ∧ ∀ W' p xs H', Stp W W' H H' → Base K W' S' H' → Fresh W' H H' p r xs → Q (.ref p) H'
theorem spD_len {K : Fr} {np : Nat} {m : DF} {vs : List V} {H : Hp} {Q : VK} {E : XK} (h : spD K np m vs H Q E) : vs.length = np := by
  obtain ⟨W, S, ds, r, S', B, q, l, _⟩ := h
  rw [q.length, l]
theorem spN_len {K : Fr} {np : Nat} {m : NF} {vs : List V} {H : Hp} {Q : VK} {E : XK} (h : spN K np m vs H Q E) : vs.length = np := by
  obtain ⟨W, S, ds, r, S', B, q, l, _⟩ := h
  rw [q.length, l]
section
variable {P : Program} {w : World} {K : PySem.W.Frag} {mg : Str → Option Value} {base : Heap} {x qual : Str} {params : Arguments} {body : List Stmt} {scope : Scope} {f : Addr} {fd : FuncData}
theorem rel_start {X : Cx} {W : Wd} {S : Sh} {H : Hp} {ds : List D} {vs : List V} {N : List Str} (B : Base X.KW W S H) (r : Reps W ds vs) (h0 : X.H_0 = H) (hl : ds.length ≤ N.length) : RelS X W W (envOf N.length ds) S (L2.start N vs) H := by
  have lv := r.length
  have iv : ∀ (i : Nat) s, (envOf N.length ds)[i]? = some s → (∃ d, ds[i]? = some d ∧ s = .val d) ∨ s = .no := fun i s h => by
    unfold envOf at h
    by_cases l : i < ds.length
    · rw [List.getElem?_append_left (by simpa using l), List.getElem?_map] at h
      obtain ⟨d', h1, h2⟩ := mapS h
      exact .inl ⟨d', h1, h2.symm⟩
    · rw [List.getElem?_append_right (by simpa using l), List.getElem?_replicate] at h
      split at h
      · cases h; exact .inr rfl
      · cases h
  refine ⟨B, by rw [h0]; exact .refl _ _, by simp [envOf, L2.start, lv], fun i d h => ?_, fun _ _ => False, fun i s h => ?_, fun _ _ h => h.elim, fun _ _ _ h => h.elim⟩
  · rcases iv i _ h with ⟨d', h1, h2⟩ | h2
    · cases h2
      have l : i < ds.length := (List.getElem?_eq_some_iff.mp h1).1
      obtain ⟨v, h3, h4⟩ := r.get h1
      refine ⟨v, ?_, h4⟩
      unfold L2.start
      rw [List.getElem?_append_left (by simpa [lv] using l), List.getElem?_map, h3]
      rfl
    · cases h2
  · rcases iv i _ h with ⟨d', h1, h2⟩ | h2 <;> subst h2 <;> exact trivial
abbrev Body (P : Program) (w : World) (K : PySem.W.Frag) (mg : Str → Option Value) (base : Heap) (N : List Str) (qual : Str) (scope : Scope) (body : List Stmt) (f : Addr) (k : Nat) (ds : DS) : Prop :=
  ∀ [XW] (cdv : Value) (A : Around) (outer : List Env) (s : Shared) (H : Hp) (E : XK), Room k (A.deeper (envOfC qual scope s.heap.objs.size f cdv)) → Takes (cxOf CX0 P w K mg base N qual scope f cdv A outer s H E).nox XW.W →
    PSs' (cxOf CX0 P w K mg base N qual scope f cdv A outer s H E).nox body ds
theorem FunD.okD {N ps : List Str} {k : Nat} (F : FunD K x qual params body scope [] [] f fd) (S : FnScope N ps scope) (hl : ps.length ≤ N.length) {ds : DS} (hb : Body P w K mg base N qual scope body f k ds) :
    FnOk P w K mg base CX0 (k + 1) f fd ps (spD ⟨K, w⟩ ps.length (fnD ps.length N.length ds)) :=
  F.ok S (fun vs H Q E h => spD_len h) fun cdv A outer s H vs Q E hr h => ⟨_, (@hb ⟨fun _ _ _ _ => False⟩ cdv A outer s H E hr (fun _ _ x => by
    obtain ⟨_, _, _, _, _, _, _, _, _, _, _, _, _, _, _, _, z⟩ := x
    exact z.elim)).nox, by
    obtain ⟨W, S1, as, r, S', B, q, l, e, k1⟩ := h
    unfold fnD at e
    rw [if_pos l] at e
    obtain ⟨o, e1, e2⟩ := bindS e
    refine ⟨W, W, _, S1, o, rel_start (X := (cxOf CX0 P w K mg base N qual scope f cdv A outer s H E).nox) B q rfl (by omega), e1, ?_⟩
    cases o with
    | rt d S2 =>
      cases e2
      exact fun W' v H' s' B' r' => k1 W' v H' s' B' r'
    | nx ρ S2 =>
      cases e2
      exact fun W' σ' H' l' R' => k1 W' .non H' R'.ent R'.base rfl
    | ro xs S2 =>
      cases e2
      intro W' a vs' H' s' B' ha ra ta ma h0
      obtain ⟨B2, l2⟩ := B'.know ha ta ma
      refine k1 _ (.ref a) H' ⟨s'.le.trans l2, s'.keep, s'.new, s'.ex, fun b o h => ?_⟩ B2 ⟨a, vs', rfl, if_pos rfl, ra.mono l2⟩
      have h' : (if b = a then some (HO.lst vs') else W'.T b) = some o := h
      by_cases e : b = a
      · exact .inr (by rw [e]; exact h0)
      · rw [if_neg e] at h'
        exact s'.newT b o h'
    | bk ρ S2 => cases e2
    | ct ρ S2 => cases e2
    | ex c ρ S2 => cases e2⟩
theorem FunD.okN {N ps : List Str} {k : Nat} (F : FunD K x qual params body scope [] [] f fd) (S : FnScope N ps scope) (hl : ps.length ≤ N.length) {ds : DS} (hb : Body P w K mg base N qual scope body f k ds) :
    FnOk P w K mg base CX0 (k + 1) f fd ps (spN ⟨K, w⟩ ps.length (fnN ps.length N.length ds)) :=
  F.ok S (fun vs H Q E h => spN_len h) fun cdv A outer s H vs Q E hr h => ⟨_, (@hb ⟨fun _ _ _ _ => False⟩ cdv A outer s H E hr (fun _ _ x => by
    obtain ⟨_, _, _, _, _, _, _, _, _, _, _, _, _, _, _, _, z⟩ := x
    exact z.elim)).nox, by
    obtain ⟨W, S1, as, r, S', B, q, l, e, k1⟩ := h
    unfold fnN at e
    rw [if_pos l] at e
    obtain ⟨o, e1, e2⟩ := bindS e
    refine ⟨W, W, _, S1, o, rel_start (X := (cxOf CX0 P w K mg base N qual scope f cdv A outer s H E).nox) B q rfl (by omega), e1, ?_⟩
    cases o with
    | ro xs S2 =>
      cases e2
      exact fun W' a vs' H' s' B' ha ra ta ma h0 => k1 W' a vs' H' s' B' ⟨ha, ra, ta, ma, h0⟩
    | _ => cases e2⟩
end
/-! ### calls -/
def dFn (np : Nat) (m : DF) (dl : DA) : DE := fun ρ S => (dl ρ S).bind fun p => if p.1.length = np then m p.1 p.2 else none
def nFn (np : Nat) (m : NF) (dl : DA) : DN := fun ρ S => (dl ρ S).bind fun p => if p.1.length = np then m p.1 p.2 else none
section
variable {X : Cx} {a b e : Expr} {es : List Expr} {dl : DA} {pos : Pos} {k : Nat} {f : Addr} {fd : FuncData} {ps : List Str} {np : Nat} {m : DF} {mn : NF}
theorem dpe_call {x : Str} {p : Pos} (F : FnOk X.prog X.w X.K X.mg X.base CX0 k f fd ps (spD X.KW np m)) (hr : Room k X.A) (hm : X.mg x = some (.ref f)) (hk : PySem.W.keepIn X.K (.ref f) = true) (hb : Binds X.K fd ps []) (ha : PA' X (e :: es) dl) (hg : Gl X x := by rfl)
    (hdb : (x == ("__debug__" : Str)) = false := by decide) (he : starEach (e :: es) X.env = (false, eval e X.env) :: starEach es X.env := by rfl) (hpl : (backTo pos (starEach es X.env)).any (·.1) = false := by rfl) :
    PE' X (.Call (.Name x p) (e :: es) [] pos) (dFn np m dl) := PE.imp (pe_call F hr hg hm hk hb .nil pass0 ha hdb he hpl) fun σ H Q => by
  rintro ⟨W, ρ, S, r, S', R, hd, k1⟩
  obtain ⟨⟨ds, S1⟩, e1, hd⟩ := bindS hd
  simp only [Option.ite_none_right_eq_some] at hd
  obtain ⟨hl, hd⟩ := hd
  refine ⟨W, ρ, S, ds, S1, R, e1, fun W1 vs H1 s1 R1 r1 => ?_⟩
  show spD X.KW np m (vs ++ []) H1 Q E0
  rw [List.append_nil]
  exact ⟨W1, S1, ds, r, S', R1.base, r1, hl, hd, fun W2 v H2 s2 B2 r2 => k1 W2 v H2 (s1.trans s2) ⟨B2, R1.env.mono s2.le⟩ r2⟩
theorem dn_call {x : Str} {p : Pos} (F : FnOk X.prog X.w X.K X.mg X.base CX0 k f fd ps (spN X.KW np mn)) (hr : Room k X.A) (hm : X.mg x = some (.ref f)) (hk : PySem.W.keepIn X.K (.ref f) = true) (hb : Binds X.K fd ps []) (ha : PA' X (e :: es) dl) (hg : Gl X x := by rfl)
    (hdb : (x == ("__debug__" : Str)) = false := by decide) (he : starEach (e :: es) X.env = (false, eval e X.env) :: starEach es X.env := by rfl) (hpl : (backTo pos (starEach es X.env)).any (·.1) = false := by rfl) :
    PN X (.Call (.Name x p) (e :: es) [] pos) (nFn np mn dl) := PE.imp (pe_call F hr hg hm hk hb .nil pass0 ha hdb he hpl) fun σ H Q => by
  rintro ⟨W, ρ, S, r, S', R, hd, k1⟩
  obtain ⟨⟨ds, S1⟩, e1, hd⟩ := bindS hd
  simp only [Option.ite_none_right_eq_some] at hd
  obtain ⟨hl, hd⟩ := hd
  refine ⟨W, ρ, S, ds, S1, R, e1, fun W1 vs H1 s1 R1 r1 => ?_⟩
  show spN X.KW np mn (vs ++ []) H1 Q E0
  rw [List.append_nil]
  refine ⟨W1, S1, ds, r, S', R1.base, r1, hl, hd, fun W2 p xs H2 s2 B2 fr => k1 W2 p xs H2 (s1.trans s2) ⟨B2, R1.env.mono s2.le⟩ ⟨fr.at_, fr.rep, fr.t, fr.m, ?_⟩⟩
  cases q : H p with
  | none => rfl
  | some o =>
    obtain ⟨o', z⟩ := s1.ex p o q
    rw [fr.new] at z; cases z
/-! ### built-ins by name -/
theorem dpe_cb {id : String} {x : Str} {p : Pos} {g : List D → Option D} (hc : CallR X (.builtin id) (rDc X.KW g)) (hm : X.mg x = none) (hv : bootBuiltins x = some (.builtin id)) (ha : PA' X (e :: es) dl) (hg : Gl X x := by rfl) (hn : x ≠ "__name__" := by decide) (hdb : (x == ("__debug__" : Str)) = false := by decide)
    (he : starEach (e :: es) X.env = (false, eval e X.env) :: starEach es X.env := by rfl) (hpl : (backTo pos (starEach es X.env)).any (·.1) = false := by rfl) : PE' X (.Call (.Name x p) (e :: es) [] pos) (dCall g dl) :=
  liftCall (fun h => pe_callB hc hg hm hv h hn hdb he hpl) ha
theorem dpe_ct {T : String} {x : Str} {p : Pos} {g : List D → Option D} (hc : CallR X (.type T) (rDc X.KW g)) (hm : X.mg x = none) (hv : bootBuiltins x = some (.type T)) (ha : PA' X (e :: es) dl) (hg : Gl X x := by rfl) (hn : x ≠ "__name__" := by decide) (hdb : (x == ("__debug__" : Str)) = false := by decide)
    (he : starEach (e :: es) X.env = (false, eval e X.env) :: starEach es X.env := by rfl) (hpl : (backTo pos (starEach es X.env)).any (·.1) = false := by rfl) : PE' X (.Call (.Name x p) (e :: es) [] pos) (dCall g dl) :=
  liftCall (fun h => pe_callTy hc hg hm hv h hn hdb he hpl) ha
def lenD : D → Option D
  | .str x => if x.length ≤ sizeLine then some (.int x.length) else none
  | .lst ds => some (.int ds.length)
  | .rol ds => some (.int ds.length)
  | .tup ds => some (.int ds.length)
  | _ => none
def lenO : List D → Option D
  | [d] => lenD d
  | _ => none
def absO : List D → Option D
  | [.int i] => some (.int (if i < 0 then -i else i))
  | _ => none
def intO : List D → Option D
  | [.int i] => some (.int i)
  | [.bl k] => some (.int (if k then 1 else 0))
  | _ => none
def gcdO : List D → Option D
  | [.int a, .int b] => some (.int ((Nat.gcd a.natAbs b.natAbs : Nat) : Int))
  | _ => none
def tupleO : List D → Option D
  | [d] => (seqD d).map .tup
  | _ => none
theorem reps1 {W : Wd} {d : D} {vs : List V} (h : Reps W [d] vs) : ∃ v, vs = [v] ∧ Rep W d v := by
  obtain ⟨v, r, rfl, h1, h2⟩ := h
  obtain rfl : r = [] := h2
  exact ⟨v, rfl, h1⟩
theorem reps2 {W : Wd} {d d' : D} {vs : List V} (h : Reps W [d, d'] vs) : ∃ v v', vs = [v, v'] ∧ Rep W d v ∧ Rep W d' v' := by
  obtain ⟨v, r, rfl, h1, h2⟩ := h
  obtain ⟨v', rfl, h3⟩ := reps1 h2
  exact ⟨v, v', rfl, h1, h3⟩
theorem cd_len : CallR X (.builtin "len") (rDc X.KW lenO) := by
  intro pins s σ H xs us Q I r ⟨W, S, ds, z, B, q, hd, k⟩
  match ds, q, hd with
  | [d], q, hd =>
    obtain ⟨v, rfl, rv⟩ := reps1 q
    have go : ∀ xs', seqD d = some xs' → z = .int xs'.length → wpAny (model X.prog X.w) X.A (call (.builtin "len") us) (EP X pins σ Q) X.xe s := fun xs' h1 e => by
      subst e
      obtain ⟨a, vs, rfl, h3, h4⟩ := B.seq rv h1
      refine call_len pins s σ H _ us Q I r ⟨_, xs'.length, rfl, ?_, k W _ H (.refl _ _) B rfl⟩
      rcases h3 with h3 | h3
      · exact .inl ⟨vs, h3, h4.length.symm⟩
      · exact .inr ⟨vs, h3, h4.length.symm⟩
    cases d with
    | str t =>
      simp only [lenO, lenD, Option.ite_none_right_eq_some, Option.some.injEq] at hd
      obtain ⟨h1, rfl⟩ := hd
      cases rv
      exact call_len pins s σ H _ us Q I r ⟨_, _, rfl, ⟨h1, rfl⟩, k W _ H (.refl _ _) B rfl⟩
    | lst ds => cases hd; exact go ds rfl rfl
    | rol ds => cases hd; exact go ds rfl rfl
    | tup ds => cases hd; exact go ds rfl rfl
    | _ => cases hd
  | [], _, hd => cases hd
  | _ :: _ :: _, _, hd => simp [lenO] at hd
theorem cd_abs : CallR X (.builtin "abs") (rDc X.KW absO) := by
  intro pins s σ H xs us Q I r ⟨W, S, ds, z, B, q, hd, k⟩
  unfold absO at hd
  split at hd
  · cases hd
    obtain ⟨v, rfl, rv⟩ := reps1 q
    cases rv
    exact call_abs pins s σ H _ us Q I r ⟨_, rfl, k W _ H (.refl _ _) B rfl⟩
  · cases hd
theorem cd_int : CallR X (.type "int") (rDc X.KW intO) := by
  intro pins s σ H xs us Q I r ⟨W, S, ds, z, B, q, hd, k⟩
  unfold intO at hd
  split at hd
  · cases hd
    obtain ⟨v, rfl, rv⟩ := reps1 q
    cases rv
    exact call_int1 pins s σ H _ us Q I r (.inl ⟨_, rfl, k W _ H (.refl _ _) B rfl⟩)
  · cases hd
    obtain ⟨v, rfl, rv⟩ := reps1 q
    cases rv
    exact call_int1 pins s σ H _ us Q I r (.inr ⟨_, rfl, k W _ H (.refl _ _) B rfl⟩)
  · cases hd
theorem cd_gcd : CallR X (.builtin "math.gcd") (rDc X.KW gcdO) := by
  intro pins s σ H xs us Q I r ⟨W, S, ds, z, B, q, hd, k⟩
  unfold gcdO at hd
  split at hd
  · cases hd
    obtain ⟨v, v', rfl, rv, rv'⟩ := reps2 q
    cases rv
    cases rv'
    exact cr_gcd pins s σ H _ us Q I r ⟨_, _, rfl, k W _ H (.refl _ _) B rfl⟩
  · cases hd
theorem dpe_gcd {x : Str} {p : Pos} (hm : X.mg x = some (.builtin "math.gcd")) (ha : PA' X (e :: es) dl) (hg : Gl X x := by rfl) (hdb : (x == ("__debug__" : Str)) = false := by decide)
    (he : starEach (e :: es) X.env = (false, eval e X.env) :: starEach es X.env := by rfl) (hpl : (backTo pos (starEach es X.env)).any (·.1) = false := by rfl) : PE' X (.Call (.Name x p) (e :: es) [] pos) (dCall gcdO dl) :=
  liftCall (fun h => pe_callBfun cd_gcd hg hm h hdb he hpl) ha
theorem call_tuple_ofZ : CallR X (.type "tuple") (fun xs H Q => ∃ p ys, xs = [.ref p] ∧ ((SqL X.KW H p ys ∧ ∀ l its, H l = none → Q (.ref l) (upd H l (.frz (tupOb its) (.tup ys)))) ∨ (SqT X.KW H p ys ∧ Q (.ref p) H))) := by
  intro pins s σ H xs us Q I r h
  obtain ⟨p, ys, rfl, h⟩ := h
  obtain ⟨u, rfl, rx⟩ := L2.vals1 r
  cases rx
  rcases h with ⟨hq, q⟩ | ⟨hq, q⟩
  · obtain ⟨its, r', pl, hz⟩ := I.list hq
    have hlen := r'.length
    refine call_tuple_list pl.isList (fun h' kp => ?_) (by simp only [List.size_toArray] <;> omega)
    have I1 : Inv X pins σ H { s with heap := h' } := I.kept (t' := s.toks) kp
    have I2 : Inv X pins σ (upd H h'.objs.size (.frz (tupOb its) (.tup ys))) { s with heap := h'.push { cls := .type "tuple", data := .seq its.toArray } } :=
      I1.laid (t' := s.toks) (fun b o e => Heap.get?_push_of_some _ e) (Nat.le_refl _) (tupOb_ok (Heap.get?_push_size _ rfl) hz r')
    exact ⟨.ref h'.objs.size, _, I2, rfl, q _ _ (I1.hok.fresh (Nat.le_refl _))⟩
  · obtain ⟨its, r', pl, hz⟩ := I.tuple hq
    exact call_tuple_same pl ⟨.ref p, H, I, rfl, q⟩
theorem cd_tuple : CallR X (.type "tuple") (rDc X.KW tupleO) := by
  intro pins s σ H xs us Q I r ⟨W, S, ds, z, B, q, hd, k⟩
  match ds, q, hd with
  | [d], q, hd =>
    obtain ⟨xs', h1, rfl⟩ := mapS hd
    obtain ⟨v, rfl, rv⟩ := reps1 q
    by_cases ht : ∃ ys, d = .tup ys
    · obtain ⟨ys, rfl⟩ := ht
      cases h1
      obtain ⟨a, vs, rfl, t, h4⟩ := rv
      exact call_tuple_ofZ pins s σ H _ us Q I r ⟨a, vs, rfl, .inr ⟨B.tup t, k W _ H (.refl _ _) B ⟨a, vs, rfl, t, h4⟩⟩⟩
    · have hl : ∃ a vs, v = .ref a ∧ SqL X.KW H a vs ∧ Reps W xs' vs := by
        cases d with
        | lst ys =>
          cases h1
          obtain ⟨a, vs, h1, h2, h3⟩ := rv
          exact ⟨a, vs, h1, SqL.of (B.lst h2), h3⟩
        | rol ys =>
          cases h1
          obtain ⟨a, vs, h1, h2, h3⟩ := rv
          exact ⟨a, vs, h1, (B.sa.2 a vs h2).seq, h3⟩
        | tup ys => exact absurd ⟨ys, rfl⟩ ht
        | _ => cases h1
      obtain ⟨a, vs, rfl, h3, h4⟩ := hl
      refine call_tuple_ofZ pins s σ H _ us Q I r ⟨a, vs, rfl, .inl ⟨h3, fun p its hp => ?_⟩⟩
      obtain ⟨W', s', B', t', _⟩ := B.laidT (x := tupOb its) (vs := vs) hp rfl
      exact k W' _ _ s' B' ⟨p, vs, rfl, t', h4.mono s'.le⟩
  | [], _, hd => cases hd
  | _ :: _ :: _, _, hd => simp [tupleO] at hd
/-- list(xs): a new list -/
def nList (dl : DE) : DN := fun ρ S => (dl ρ S).bind fun p => (seqD p.1).map fun ds => (ds, p.2)
theorem Stp.back {W W' : Wd} {H H' : Hp} {p : Addr} (s : Stp W W' H H') (h : H' p = none) : H p = none := by
  cases q : H p with
  | none => rfl
  | some o =>
    obtain ⟨o', z⟩ := s.ex p o q
    rw [h] at z; cases z
theorem dn_list {p : Pos} {da : DE} (hm : X.mg "list" = none) (ha : PE' X e da) (hg : Gl X "list" := by rfl)
    (he : starEach [e] X.env = (false, eval e X.env) :: starEach [] X.env := by rfl) (hpl : (backTo pos (starEach [] X.env)).any (·.1) = false := by rfl) : PN X (.Call (.Name "list" p) [e] [] pos) (nList da) :=
  PE.imp (pe_callTy call_list_of hg hm (by decide +kernel) (pa_cons ha pa_nil he) (by decide) (by decide) he hpl) fun σ H Q => by
  rintro ⟨W, ρ, S, r, S', R, hd, k⟩
  obtain ⟨⟨d, S1⟩, e1, hd⟩ := bindS hd
  obtain ⟨ds, e2, hd⟩ := mapS hd
  cases hd
  refine ⟨W, ρ, S, d, _, R, e1, fun W1 v H1 s1 R1 r1 => ?_⟩
  obtain ⟨a, vs, rfl, h3, h4⟩ := R1.base.seq r1 e2
  refine ⟨a, vs, rfl, h3, fun l hl => ?_⟩
  obtain ⟨B', s'⟩ := R1.base.alloc (.lst vs) hl
  exact k W1 l vs _ (s1.trans s') ⟨B', R1.env⟩ ⟨upd_same, h4, (R1.base.free hl).1, (R1.base.free hl).2, s1.back hl⟩
end
end DL


/-! DL11: shared lists, stores by place, isinstance, bit_length -/
namespace DL
open PySem L2 PyProof.Rows

/-! ### shared lists -/
theorem Base.setSh {K : Fr} {W : Wd} {S : Sh} {H : Hp} {i : Nat} {a : Addr} {ds : List D} {vs : List V} (B : Base K W S H) (hi : i < S.length) (ha : W.m[i]? = some a) (r : Reps W ds vs) :
    Base K W (S.set i ds) (upd H a (.lst vs)) ∧ Stp W W H (upd H a (.lst vs)) := by
  have mm : a ∈ W.m := List.mem_of_getElem? ha
  obtain ⟨a', vs', k1, k2', _⟩ := B.sh i S[i] (List.getElem?_eq_getElem hi)
  rw [ha] at k1; cases k1
  have ta := B.apart a mm
  refine ⟨⟨fun b o h => ?_, by simp [B.len], fun j es h => ?_, B.nod, B.apart, B.sa.1, fun b ws h => ?_⟩, ⟨.refl _, fun b o h n => ?_, fun _ h => .inl h, fun b o h => ?_, fun _ _ h => .inl h⟩⟩
  · have ne : b ≠ a := fun e => by rw [e, ta] at h; cases h
    exact (B.fro b o h).keep fun v z => by rw [upd_ne ne]; exact z
  · by_cases e : i = j
    · subst e
      rw [List.getElem?_set_self hi] at h
      cases h
      exact ⟨a, vs, ha, upd_same, r⟩
    · rw [List.getElem?_set_ne e] at h
      obtain ⟨b, us, h1, h2, h3⟩ := B.sh j es h
      refine ⟨b, us, h1, ?_, h3⟩
      rw [upd_ne]
      · exact h2
      · intro z
        subst z
        exact e ((List.getElem?_inj (List.getElem?_eq_some_iff.mp ha).1 B.nod).mp (ha.trans h1.symm))
  · have h1 := B.sa.2 b ws h
    rcases h1 with ⟨x, z⟩ | z
    · exact .inl ⟨x, by rw [upd_ne (fun e => by rw [e, k2'] at z; cases z)]; exact z⟩
    · exact .inr z
  · rw [upd_ne (fun e => n (by rw [e]; exact mm))]; exact h
  · by_cases e : b = a
    · exact ⟨_, by rw [e]; exact upd_same⟩
    · exact ⟨o, by rw [upd_ne e]; exact h⟩
section
variable {X : Cx} {W0 W W1 : Wd} {S S1 : Sh} {σ : L2.St} {H H1 : Hp} {keep : List Nat} {dl : DA} {a b e o : Expr} {es : List Expr} {pos : Pos} {da db : DE} {dn it : DN} {dt : DT} {tg : Tg} {ρ : Env2}
def dPopS (d : DE) : DE := fun ρ S => (d ρ S).bind fun p => match p.1 with
  | .ref i => (p.2[i]?).bind fun ds => (ds[ds.length - 1]?).map fun x => (x, p.2.set i ds.dropLast)
  | _ => none
theorem Reps.dropLast {W : Wd} : ∀ {ds : List D} {vs : List V}, Reps W ds vs → Reps W ds.dropLast vs.dropLast
  | [], _, h => by obtain rfl : _ = [] := h; exact rfl
  | [d], _, h => by
    obtain ⟨v, r, rfl, h2, h3⟩ := h
    obtain rfl : r = [] := h3
    exact rfl
  | d :: d' :: ds, _, h => by
    obtain ⟨v, r, rfl, h2, h3⟩ := h
    obtain ⟨v', r', rfl, h4, h5⟩ := id h3
    exact ⟨v, _, rfl, h2, Reps.dropLast (ds := d' :: ds) h3⟩
theorem dpe_popS {apos cpos : Pos} (ho : PE X (.Call (.Attribute o "pop" apos) [] [] cpos) (tBM0 X.KW "list" rPop (liftE X.KW da))) : PE' X (.Call (.Attribute o "pop" apos) [] [] cpos) (dPopS da) := PE.imp ho fun σ H Q => by
  rintro ⟨W, ρ, S, r, S', R, hd, k⟩
  obtain ⟨⟨x, S1⟩, e1, hd⟩ := bindS hd
  cases x <;> simp only [reduceCtorEq] at hd
  rename_i i
  obtain ⟨ds, h1, hd⟩ := bindS hd
  obtain ⟨y, h2, hd⟩ := mapS hd
  cases hd
  refine ⟨W, ρ, S, _, S1, R, e1, fun W1 v H1 s1 R1 r1 => ?_⟩
  obtain ⟨a, ha, rfl⟩ := r1
  obtain ⟨a', vs, k1, k2, k3⟩ := R1.base.sh i ds h1
  rw [ha] at k1; cases k1
  obtain ⟨w, hw, rw_⟩ := k3.get h2
  refine ⟨.inl ⟨rfl, _, SqL.of k2⟩, a, vs, w, rfl, rfl, k2, by rw [k3.length]; exact hw, ?_⟩
  obtain ⟨B', s'⟩ := R1.base.setSh (List.getElem?_eq_some_iff.mp h1).1 ha k3.dropLast
  exact k W1 w _ (s1.trans s') ⟨B', R1.env⟩ rw_
theorem pop_rule {apos cpos : Pos} (ho : PE' X o da) (hbase : attributeBase o "pop" X.env (eval o X.env) = eval o X.env := by rfl) (hline : (apos.endLine == cpos.line) = true := by rfl) : PE' X (.Call (.Attribute o "pop" apos) [] [] cpos) (dPopS da) :=
  dpe_popS (pe_bm0 PySem.F.plainAttrs_list PySem.F.slot_list_pop PySem.F.type_list_pop mt_pop ho hbase hline)
/-- len, of a shared list too -/
def dLen (d : DE) : DE := fun ρ S => (d ρ S).bind fun p => match p.1 with
  | .ref i => (p.2[i]?).map fun ds => (.int ds.length, p.2)
  | x => (lenD x).map fun z => (z, p.2)
theorem dpe_len {p : Pos} (hm : X.mg "len" = none) (ha : PE' X e da) (hg : Gl X "len" := by rfl)
    (he : starEach [e] X.env = (false, eval e X.env) :: starEach [] X.env := by rfl) (hpl : (backTo pos (starEach [] X.env)).any (·.1) = false := by rfl) : PE' X (.Call (.Name "len" p) [e] [] pos) (dLen da) :=
  PE.imp (pe_callB (r := fun xs H Q => rDc X.KW lenO xs H Q ∨ ∃ l ys, xs = [.ref l] ∧ H l = some (.lst ys) ∧ Q (.int ys.length) H) (CallR.or cd_len fun pins s σ H xs us Q I r ⟨l, ys, e1, e2, q⟩ => by
      subst e1
      exact call_len pins s σ H _ us Q I r ⟨_, _, rfl, .inl ⟨ys, SqL.of e2, rfl⟩, q⟩) hg hm boot_len (pa_cons ha pa_nil he) (by decide) (by decide) he hpl) fun σ H Q => by
  rintro ⟨W, ρ, S, r, S', R, hd, k⟩
  obtain ⟨⟨x, S1⟩, e1, hd⟩ := bindS hd
  refine ⟨W, ρ, S, x, S1, R, e1, fun W1 v H1 s1 R1 r1 => ?_⟩
  by_cases hr : ∃ i, x = .ref i
  · obtain ⟨i, rfl⟩ := hr
    obtain ⟨ds, h1, hd⟩ := mapS hd
    cases hd
    obtain ⟨a, ha, rfl⟩ := r1
    obtain ⟨a', vs, k1, k2, k3⟩ := R1.base.sh i ds h1
    rw [ha] at k1; cases k1
    exact .inr ⟨a, vs, rfl, k2, by rw [k3.length]; exact k W1 _ H1 s1 R1 rfl⟩
  · have hd' : (lenD x).map (fun z => (z, S1)) = some (r, S') := by
      cases x with
      | ref i => exact absurd ⟨i, rfl⟩ hr
      | _ => exact hd
    obtain ⟨z, h1, hd'⟩ := mapS hd'
    cases hd'
    exact .inl ⟨W1, _, [x], r, R1.base, Reps.one r1, h1, fun W2 w H2 s2 B2 r2 => k W2 w H2 (s1.trans s2) ⟨B2, R1.env.mono s2.le⟩ r2⟩
/-- a new list becomes a shared one -/
def sShare (keep : List Nat) (i : Nat) (d : DN) : DS := fun ρ S => (d (fzE keep 0 ρ) S).map fun p => .nx ((frz keep 0 ρ).set i (.val (.ref p.2.length))) (p.2 ++ [p.1])
theorem RelS.share (R : RelS X W0 W ρ S σ H) {p : Addr} {ds : List D} {vs : List V} (hp : H p = some (.lst vs)) (r : Reps W ds vs) (ht : W.T p = none) (hm : p ∉ W.m) (hH : X.H_0 p = none) (hn : Away X W ρ σ H (fun b => b = p)) :
    RelS X W0 { W with m := W.m ++ [p] } ρ (S ++ [ds]) σ H ∧ Rep { W with m := W.m ++ [p] } (.ref S.length) (.ref p) ∧ Le W { W with m := W.m ++ [p] } := by
  have B := R.base
  have le : Le W { W with m := W.m ++ [p] } := ⟨fun i a h => by
    rw [List.getElem?_append_left (List.getElem?_eq_some_iff.mp h).1]; exact h, fun _ _ h => h, rfl⟩
  refine ⟨⟨⟨B.fro, by simp [B.len], fun i es h => ?_, ?_, fun a h => ?_, B.sa⟩, ⟨R.ent.le.trans le, R.ent.keep, fun b h => ?_, R.ent.ex, R.ent.newT⟩, R.len, fun i d h => ?_, ?_⟩, ⟨p, ?_, rfl⟩, le⟩
  · by_cases l : i < S.length
    · rw [List.getElem?_append_left l] at h
      obtain ⟨a, us, h1, h2, h3⟩ := B.sh i es h
      exact ⟨a, us, le.m i a h1, h2, h3.mono le⟩
    · rw [List.getElem?_append_right (by omega)] at h
      have e : i - S.length = 0 := by
        by_cases z : i - S.length = 0
        · exact z
        · rw [List.getElem?_eq_none (by simp; omega)] at h; cases h
      rw [e] at h
      cases h
      refine ⟨p, vs, ?_, hp, r.mono le⟩
      rw [List.getElem?_append_right (by rw [B.len]; omega), B.len, e]
      rfl
  · rw [List.nodup_append]
    refine ⟨B.nod, by simp, fun a ha b hb e => ?_⟩
    have : b = p := by simpa using hb
    rw [e, this] at ha
    exact hm ha
  · rcases List.mem_append.mp h with z | z
    · exact B.apart a z
    · rw [show a = p by simpa using z]; exact ht
  · rcases List.mem_append.mp h with z | z
    · exact R.ent.new b z
    · rw [show b = p by simpa using z]; exact .inr hH
  · obtain ⟨v, h1, h2⟩ := R.val i d h
    exact ⟨v, h1, h2.mono le⟩
  · obtain ⟨F, O, hF⟩ := hn
    refine ⟨F, fun i sl h => (O.at_ i sl h).step le (fun _ _ => rfl) fun _ h => h, fun i a h => ?_, O.dis⟩
    obtain ⟨h1, h2, h3, h4⟩ := O.low i a h
    refine ⟨h1, fun q => ?_, h3, h4⟩
    rcases List.mem_append.mp q with z | z
    · exact h2 z
    · exact hF i p rfl (by rw [← show a = p by simpa using z]; exact h)
  · show (W.m ++ [p])[S.length]? = some p
    rw [List.getElem?_append_right (by rw [B.len]; omega), B.len]
    simp
theorem share_of [XW] (keep : List Nat) {i : Nat} {st : Stmt} (h : PS X st (tAsg (liftN X.KW dn) (gName i))) : PS' X st (sShare keep i dn) := PS.imp h fun D σ H => by
  rintro ⟨W0, W, ρ, S, o, R, h, k⟩
  obtain ⟨⟨r, S1⟩, e1, h⟩ := mapS h
  cases h
  refine evN R e1 fun W1 p vs H1 l R1 f hn => ?_
  have hH : X.H_0 p = none := by
    cases q : X.H_0 p with
    | none => rfl
    | some o =>
      obtain ⟨o', z⟩ := R.ent.ex p o q
      rw [f.new] at z; cases z
  obtain ⟨R2, r2, l2⟩ := R1.share f.at_ f.rep f.t f.m hH hn
  exact k _ _ H1 (l.trans l2) (R2.set i r2)
theorem dps_share [XW] (keep : List Nat) {i : Nat} {x : Str} {pos' : Pos} (hN : X.N.Nodup) (hi : X.N[i]? = some x) (hx : Loc X.env.scope x) (he : PN X e dn) (hs : swapsWith e (some (.Name x pos')) pos.line X.env = pure false := by rfl) (hf : X.fn x = true ∨ X.env.scope.names.lookup x = some .local := by first | exact .inl rfl | exact .inr rfl | assumption) :
    PS' X (.Assign [.Name x pos'] e pos) (sShare keep i dn) := share_of keep (ps_set hN hi hx he hs hf)
/-- a method of an own list without arguments: reverse -/
def sOwn0 (o : List D → List D) (i : Nat) : DS := fun ρ S => match ρ[i]? with
  | some (.own ds) => some (.nx (ρ.set i (.own (o ds))) S)
  | _ => none
theorem Reps.reverse {W : Wd} : ∀ {ds : List D} {vs : List V}, Reps W ds vs → Reps W ds.reverse vs.reverse
  | [], _, h => by obtain rfl : _ = [] := h; exact rfl
  | d :: ds, _, h => by
    obtain ⟨v, r, rfl, h2, h3⟩ := h
    rw [List.reverse_cons, List.reverse_cons]
    exact (Reps.reverse h3).append (Reps.one h2)
theorem dps_reverse [XW] {i : Nat} {apos cpos : Pos} (ho : PE X o (tVar i)) (hbase : attributeBase o "reverse" X.env (eval o X.env) = eval o X.env := by rfl) (hline : (apos.endLine == cpos.line) = true := by rfl)
    (hs : swapsWith (.Call (.Attribute o "reverse" apos) [] [] cpos) none pos.line X.env = pure false := by rfl) : PS' X (.Expr (.Call (.Attribute o "reverse" apos) [] [] cpos) pos) (sOwn0 List.reverse i) :=
  PS.imp (ps_expr (pe_bm0 PySem.F.plainAttrs_list PySem.F.slot_list_reverse PySem.F.type_list_reverse mt_reverse ho hbase hline) hs) fun D σ H => by
  rintro ⟨W0, W, ρ, S, o, R, h, k⟩
  unfold sOwn0 at h
  split at h
  · rename_i ds q
    cases h
    obtain ⟨a, vs, q1, q2, q3, _⟩ := R.own i ds q
    exact ⟨_, q1, .inl ⟨rfl, _, SqL.of q2⟩, a, vs, rfl, rfl, q2, k W σ _ (.refl _) (R.upd q q1 q3.reverse)⟩
  · cases h
theorem app_rule (keep : List Nat) {i : Nat} {apos cpos : Pos} (ho : PE X o (tVar i)) (he : PE' X e da) (hbase : attributeBase o "append" X.env (eval o X.env) = eval o X.env := by rfl)
    (hfew : ((backTo cpos (starEach [e] X.env)).all (fun x => !x.1) && (backToKw cpos (keywordEach [] X.env)).all (fun x => x.1.isSome)
      && decide ([e].length + ([] : List Keyword).length + (if ([] : List Keyword).isEmpty then 0 else 1) < 30)) = true := by rfl)
    (hline : (apos.endLine == cpos.line) = true := by rfl) (hs : starEach [e] X.env = (false, eval e X.env) :: starEach [] X.env := by rfl) (hplain : (backTo cpos (starEach [] X.env)).any (·.1) = false := by rfl) :
    PE X (.Call (.Attribute o "append" apos) [e] [] cpos) (appTE i X.KW (liftE X.KW da)) :=
  pe_bm PySem.F.plainAttrs_list PySem.F.slot_list_append PySem.F.type_list_append mt_append ho (pa_cons he pa_nil hs) hbase hfew hline hs hplain
/-- xs[k] = e, xs an own list; nothing of the own lists in keep is kept -/
def setIO (i : Nat) (ρ : Env2) (d ix : D) (S : Sh) : Option Out := match ρ[i]?, ix with
  | some (.own ds), .int j => (ixN ds.length j).map fun n => .nx (ρ.set i (.own (ds.set n d))) S
  | _, _ => none
def sSetIP (keep keep2 : List Nat) (i : Nat) (d ix : DE) : DS := fun ρ S => (d (fzE keep 0 ρ) S).bind fun p => if chk keep p.2 && (pureD p.1 || keep.isEmpty) then (ix (fzE keep2 0 ρ) p.2).bind fun q => if chk keep2 q.2 then setIO i ρ p.1 q.1 q.2 else none else none
theorem setIO_inv {i : Nat} {d ix : D} {out : Out} (h : setIO i ρ d ix S = some out) : ∃ ds j n, ρ[i]? = some (.own ds) ∧ ix = .int j ∧ ixN ds.length j = some n ∧ out = .nx (ρ.set i (.own (ds.set n d))) S := by
  unfold setIO at h
  split at h
  · rename_i ds j q
    obtain ⟨n, h1, rfl⟩ := mapS h
    exact ⟨_, _, n, q, rfl, h1, rfl⟩
  · cases h
theorem Reps.set {W : Wd} : ∀ {ds : List D} {vs : List V} (n : Nat) {d : D} {v : V}, Reps W ds vs → Rep W d v → Reps W (ds.set n d) (vs.set n v)
  | [], _, _, _, _, h, _ => by obtain rfl : _ = [] := h; exact rfl
  | x :: ds, _, 0, _, _, h, r => by
    obtain ⟨v, t, rfl, h2, h3⟩ := h
    exact ⟨_, t, rfl, r, h3⟩
  | x :: ds, _, n + 1, _, _, h, r => by
    obtain ⟨v, t, rfl, h2, h3⟩ := h
    exact ⟨v, _, rfl, h2, Reps.set n h3 r⟩
theorem dps_setIP [XW] (keep keep2 : List Nat) {i : Nat} {ix : Expr} {pos' : Pos} (he : PE' X e da) (ho : PE X o (tVar i)) (hi : PE' X ix db) (hg : ∀ (ho : PE X o (tVar i)) (hi : PE' X ix db), PG X (.Subscript o ix pos') (gSub (tVar i) (liftE X.KW db) rSetL))
    (hs : swapsWithSole [.Subscript o ix pos'] e pos.line X.env = pure false := by rfl) (hw : swappedStores [.Subscript o ix pos'] e X.env = pure none := by rfl)
    (h1 : (assignEach [.Subscript o ix pos'] X.env).map (·.2) = [assign (.Subscript o ix pos') X.env] := by rfl) : PS' X (.Assign [.Subscript o ix pos'] e pos) (sSetIP keep keep2 i da db) := PS.imp (ps_asg he (hg ho hi) hs hw h1) fun D σ H => by
  rintro ⟨W0, W, ρ, S, o, R, h, k⟩
  obtain ⟨⟨r, S1⟩, e1, h⟩ := bindS h
  simp only [Option.ite_none_right_eq_some, Bool.and_eq_true, Bool.or_eq_true] at h
  obtain ⟨⟨hS, hp⟩, h⟩ := h
  obtain ⟨⟨x, S2⟩, e2, h⟩ := bindS h
  simp only [Option.ite_none_right_eq_some] at h
  obtain ⟨hS2, h⟩ := h
  obtain ⟨ds, j, n, q1, rfl, q2, rfl⟩ := setIO_inv h
  refine evP R e1 hS fun W1 v H1 l R1 r1 => ?_
  obtain ⟨a, vs, k1, k2, k3, _⟩ := R1.own i ds q1
  refine ⟨_, k1, evP R1 e2 hS2 fun W2 u H2 l2 R2 r2 => ?_⟩
  have ru := r2 (.inl rfl)
  cases ru
  obtain ⟨a', vs', k1', k2', k3', _⟩ := R2.own i ds q1
  rw [k1] at k1'; cases k1'
  exact ⟨a, vs', j, n, rfl, rfl, k2', by rw [k3'.length]; exact q2, k W2 σ _ (l.trans l2) (R2.upd q1 k1 (k3'.set n ((r1 hp).mono l2)))⟩

/-! ### isinstance, bit_length -/
def tyN : D → Option String
  | .non => some "NoneType" | .bl _ => some "bool" | .int _ => some "int" | .str _ => some "str" | .tup _ => some "tuple" | .lst _ => some "list"
  | _ => none
def isTy (t n : String) : Bool := t == n || (t == "bool" && n == "int")
theorem kit_is {K : PySem.W.Frag} {t n : String} (ht : t ∈ ["NoneType", "bool", "int", "str", "tuple", "list"]) (hn : n ∈ ["bool", "int", "str", "tuple", "list"]) : PySem.W.kitOne K (.type t) (.type n) = some (isTy t n) := by
  have h : ∀ t ∈ ["NoneType", "bool", "int", "str", "tuple", "list"], ∀ n ∈ ["bool", "int", "str", "tuple", "list"], kitB t n = some (isTy t n) := by decide +kernel
  exact kit_ty (h t ht n hn)
theorem tyN_of {W : Wd} {d : D} {x : V} {t : String} (B : Base X.KW W S H) (h : tyN d = some t) (r : Rep W d x) : TyX X.KW H x (.type t) ∧ t ∈ ["NoneType", "bool", "int", "str", "tuple", "list"] := by
  cases d with
  | non => cases h; cases r; exact ⟨.base .non, by decide⟩
  | bl b => cases h; cases r; exact ⟨.base (.bl _), by decide⟩
  | int b => cases h; cases r; exact ⟨.base (.int _), by decide⟩
  | str b => cases h; cases r; exact ⟨.base (.str _), by decide⟩
  | tup b => cases h; obtain ⟨a, vs, rfl, t, _⟩ := r; obtain ⟨x, _, z⟩ := B.tupX t; exact ⟨.fTuple z, by decide⟩
  | lst b => cases h; obtain ⟨a, vs, rfl, t, _⟩ := r; exact ⟨.base (.lst (B.lst t)), by decide⟩
  | _ => cases h
def isiD (ns : List String) (d : D) : Option D := (tyN d).map fun t => .bl (ns.any fun n => isTy t n)
def okTy : List String := ["bool", "int", "str", "tuple", "list"]
/-- isinstance(e, T), T a built-in class -/
theorem dpe_isi {n : String} {p : Pos} (hm : X.mg "isinstance" = none) (ha : PE' X e da) (hb : PE X b (tC (.ty n))) (hn : okTy.contains n = true) (hg : Gl X "isinstance" := by rfl)
    (he : starEach [e, b] X.env = (false, eval e X.env) :: starEach [b] X.env := by rfl) (he2 : starEach [b] X.env = (false, eval b X.env) :: starEach [] X.env := by rfl) (hpl : (backTo pos (starEach [b] X.env)).any (·.1) = false := by rfl) : PE' X (.Call (.Name "isinstance" p) [e, b] [] pos) (d1 (isiD [n]) da) :=
  PE.imp (pe_callB call_isi hg hm (by decide +kernel) (pa_cons ha (pa_cons hb pa_nil he2) he) (by decide) (by decide) he hpl) fun σ H Q => by
  rintro ⟨W, ρ, S, r, S', R, hd, k⟩
  obtain ⟨⟨d, S1⟩, e1, hd⟩ := bindS hd
  obtain ⟨z, e2, hd⟩ := mapS hd
  cases hd
  obtain ⟨t, e3, rfl⟩ := mapS e2
  refine ⟨W, ρ, S, d, _, R, e1, fun W1 v H1 s1 R1 r1 => ?_⟩
  obtain ⟨t1, t2⟩ := tyN_of R1.base e3 r1
  have hn' : n ∈ ["bool", "int", "str", "tuple", "list"] := by simpa [okTy] using hn
  exact ⟨v, .ty n, _, _, isTy t n, rfl, .ty n, t1, kit_is t2 hn', by
    have : (isTy t n) = [n].any (fun n => isTy t n) := by simp
    rw [this]
    exact k W1 _ H1 s1 R1 rfl⟩
theorem kit_any {K : PySem.W.Frag} {t : String} (ht : t ∈ ["NoneType", "bool", "int", "str", "tuple", "list"]) : ∀ ns : List String, (∀ n ∈ ns, n ∈ ["bool", "int", "str", "tuple", "list"]) → PySem.W.kitAny K (.type t) (ns.map Value.type) = some (ns.any fun n => isTy t n)
  | [], _ => kitAny_nil
  | n :: ns, h => by
    have h1 := kit_is (K := K) ht (h n List.mem_cons_self)
    rw [List.map_cons]
    refine kitAny_cons h1 (fun z => ?_) fun z => ?_
    · rw [List.any_cons, z, Bool.false_or]
      exact kit_any ht ns fun m hm => h m (List.mem_cons_of_mem _ hm)
    · rw [List.any_cons, z, Bool.true_or]
theorem paired_ty : ∀ ns : List String, Paired ClsV (ns.map V.ty) (ns.map Value.type)
  | [] => .nil
  | n :: ns => .cons (.ty n) (paired_ty ns)
/-- isinstance(e, (T1, T2)) -/
theorem dpe_isiT {ns : List String} {p : Pos} (hm : X.mg "isinstance" = none) (ha : PE' X e da) (hb : PE X b (fun σ H Q => ∀ q, H q = none → Q (.ref q) (upd H q (.tup (ns.map V.ty))))) (hn : ns.all (fun n => okTy.contains n) = true) (hg : Gl X "isinstance" := by rfl)
    (he : starEach [e, b] X.env = (false, eval e X.env) :: starEach [b] X.env := by rfl) (he2 : starEach [b] X.env = (false, eval b X.env) :: starEach [] X.env := by rfl) (hpl : (backTo pos (starEach [b] X.env)).any (·.1) = false := by rfl) : PE' X (.Call (.Name "isinstance" p) [e, b] [] pos) (d1 (isiD ns) da) :=
  PE.imp (pe_callB call_isiT hg hm (by decide +kernel) (pa_cons ha (pa_cons hb pa_nil he2) he) (by decide) (by decide) he hpl) fun σ H Q => by
  rintro ⟨W, ρ, S, r, S', R, hd, k⟩
  obtain ⟨⟨d, S1⟩, e1, hd⟩ := bindS hd
  obtain ⟨z, e2, hd⟩ := mapS hd
  cases hd
  obtain ⟨t, e3, rfl⟩ := mapS e2
  refine ⟨W, ρ, S, d, _, R, e1, fun W1 v H1 s1 R1 r1 q hq => ?_⟩
  obtain ⟨B2, s2⟩ := R1.base.alloc (.tup (ns.map V.ty)) hq
  obtain ⟨t1, t2⟩ := tyN_of B2 e3 r1
  exact ⟨v, q, ns.map V.ty, _, ns.map Value.type, ns.any fun n => isTy t n, rfl, upd_same, paired_ty ns, t1, kit_any t2 ns (fun n hn1 => by
    have := List.all_eq_true.mp hn n hn1
    simpa [okTy] using this), k W1 _ _ (s1.trans s2) ⟨B2, R1.env⟩ rfl⟩
theorem pe_tys {es : List Expr} {t : TA} {ns : List String} (h : PA X es t) (ht : ∀ σ H Q, Q (ns.map V.ty) H → t σ H Q) (hl : ns.length ≤ 100) {x1 : Nat} : PE X (.Tuple es x1 pos) (fun σ H Q => ∀ q, H q = none → Q (.ref q) (upd H q (.tup (ns.map V.ty)))) :=
  PE.imp (pe_tup h) fun σ H Q k => ht σ H _ ⟨by
    rw [List.length_map]
    exact Nat.le_trans hl (by decide), k⟩
theorem pe_ty {x : Str} {n : String} {p : Pos} (hm : X.mg x = none) (hv : bootBuiltins x = some (.type n)) (hg : Gl X x := by rfl) (hn : x ≠ "__name__" := by decide) (hd : (x == ("__debug__" : Str)) = false := by decide) : PE X (.Name x p) (tC (.ty n)) := pe_bltn hg hm hv rfl hn hd
end
end DL


/-! DL12: callees, the head's facts, small rules for the printer -/
namespace DL
open PySem L2 PyProof.Rows

/-- a def of the text, as it is called -/
structure Callee (P : Program) (w : World) (K : PySem.W.Frag) (mg : Str → Option Value) (base : Heap) (x : Str) (k : Nat) (ps : List Str) (sp : Sp) : Prop where
  ex : ∃ f fd, FnOk P w K mg base CX0 k f fd ps sp ∧ mg x = some (.ref f) ∧ PySem.W.keepIn K (.ref f) = true ∧ Binds K fd ps [] ∧ ∃ oc od osl, K.lookup f = some ⟨oc, od, .func fd, osl⟩
theorem FunD.lk {K : PySem.W.Frag} {x qual : Str} {params : Arguments} {body : List Stmt} {scope : Scope} {f : Addr} {fd : FuncData} (F : FunD K x qual params body scope [] [] f fd) : ∃ oc od osl, K.lookup f = some ⟨oc, od, .func fd, osl⟩ := by
  obtain ⟨oc, od, dV, kV, doc, pm, an, cdv, ct, osl, e1, l1, _⟩ := F.ex
  exact ⟨oc, od, osl, l1⟩
/-- a def of the text stands -/
structure Stand (K : PySem.W.Frag) (mg : Str → Option Value) (x : Str) (st : Stmt) (ps : List Str) : Prop where
  ex : ∃ f fd, FunD K x x (defArgs st) (defBody st) (defScope st) [] [] f fd ∧ mg x = some (.ref f) ∧ Binds K fd ps []
section
variable {P : Program} {w : World} {K : PySem.W.Frag} {mg : Str → Option Value} {base : Heap} {x : Str} {st : Stmt} {ps N : List Str} {k j : Nat} {sp : Sp}
theorem Callee.mono (h : Callee P w K mg base x j ps sp) (l : j ≤ k) : Callee P w K mg base x k ps sp := by
  obtain ⟨f, fd, h1, h2⟩ := h.ex
  exact ⟨f, fd, h1.mono l, h2⟩
theorem Stand.okD {np n : Nat} (F : Stand K mg x st ps) (S : FnScope N ps (defScope st)) {ds : DS} (hb : ∀ f, Body P w K mg base N x (defScope st) (defBody st) f k ds) (hl : ps.length ≤ N.length := by decide) (h1 : ps.length = np := by rfl) (h2 : N.length = n := by rfl) :
    Callee P w K mg base x (k + 1) ps (spD ⟨K, w⟩ np (fnD np n ds)) := by
  subst h1
  subst h2
  obtain ⟨f, fd, h1, h2, h3⟩ := F.ex
  exact ⟨f, fd, DL.FunD.okD h1 S hl (hb f), h2, h1.kp, h3, DL.FunD.lk h1⟩
theorem Stand.okN {np n : Nat} (F : Stand K mg x st ps) (S : FnScope N ps (defScope st)) {ds : DS} (hb : ∀ f, Body P w K mg base N x (defScope st) (defBody st) f k ds) (hl : ps.length ≤ N.length := by decide) (h1 : ps.length = np := by rfl) (h2 : N.length = n := by rfl) :
    Callee P w K mg base x (k + 1) ps (spN ⟨K, w⟩ np (fnN np n ds)) := by
  subst h1
  subst h2
  obtain ⟨f, fd, h1, h2, h3⟩ := F.ex
  exact ⟨f, fd, DL.FunD.okN h1 S hl (hb f), h2, h1.kp, h3, DL.FunD.lk h1⟩
/-- nothing is claimed -/
theorem Stand.ok0 {np : Nat} (F : Stand K mg x st ps) (S : FnScope N ps (defScope st)) (h1 : ps.length = np := by rfl) : Callee P w K mg base x 1 ps (spD ⟨K, w⟩ np fun _ _ => none) := by
  subst h1
  obtain ⟨f, fd, h1, h2, h3⟩ := F.ex
  exact ⟨f, fd, h1.ok S (fun vs H Q E h => spD_len h) fun cdv A outer s H vs Q E hr h => ⟨tNever, pss_never, by
    obtain ⟨W, S, ds, r, S', B, q, l, e, _⟩ := h
    cases e⟩, h2, h1.kp, h3, DL.FunD.lk h1⟩
end
section
variable {X : Cx} {e : Expr} {es : List Expr} {dl : DA} {pos : Pos} {k j : Nat} {ps : List Str} {np : Nat} {m : DF} {mn : NF} {da : DE} {dt : DT} {dn : DN}
theorem dpe_cl {x : Str} {p : Pos} (F : Callee X.prog X.w X.K X.mg X.base x j ps (spD X.KW np m)) (hr : Room k X.A) (ha : PA' X (e :: es) dl) (hj : j ≤ k := by first | decide | omega) (hg : Gl X x := by rfl)
    (hdb : (x == ("__debug__" : Str)) = false := by decide) (he : starEach (e :: es) X.env = (false, eval e X.env) :: starEach es X.env := by rfl) (hpl : (backTo pos (starEach es X.env)).any (·.1) = false := by rfl) :
    PE' X (.Call (.Name x p) (e :: es) [] pos) (dFn np m dl) := by
  obtain ⟨f, fd, h1, h2, h3, h4, _⟩ := F.ex
  exact dpe_call h1 (hr.mono hj) h2 h3 h4 ha hg hdb he hpl
theorem dn_cl {x : Str} {p : Pos} (F : Callee X.prog X.w X.K X.mg X.base x j ps (spN X.KW np mn)) (hr : Room k X.A) (ha : PA' X (e :: es) dl) (hj : j ≤ k := by first | decide | omega) (hg : Gl X x := by rfl)
    (hdb : (x == ("__debug__" : Str)) = false := by decide) (he : starEach (e :: es) X.env = (false, eval e X.env) :: starEach es X.env := by rfl) (hpl : (backTo pos (starEach es X.env)).any (·.1) = false := by rfl) :
    PN X (.Call (.Name x p) (e :: es) [] pos) (nFn np mn dl) := by
  obtain ⟨f, fd, h1, h2, h3, h4, _⟩ := F.ex
  exact dn_call h1 (hr.mono hj) h2 h3 h4 ha hg hdb he hpl
theorem dpts_nil : PTs X [] (liftT X.KW dtYes) := ⟨fun pins s σ H Q I h => by
  obtain ⟨W, ρ, S, r, S', R, e, k⟩ := h
  cases e
  exact pts_nil.run pins s σ H Q I (k W H (.refl _ _) R)⟩
theorem dpts_one {c : Expr} (h : PT' X c dt) : PTs X [c] (liftT X.KW dt) := pts_one h
def bitsD : D → Option D
  | .int i => some (.int (Builtin.Int.intBits i : Nat))
  | _ => none
theorem dpe_bits {apos : Pos} {o : Expr} (ho : PE' X o da) (hbase : attributeBase o "bit_length" X.env (eval o X.env) = eval o X.env := by rfl) (hline : (apos.endLine == pos.line) = true := by rfl) : PE' X (.Call (.Attribute o "bit_length" apos) [] [] pos) (d1 bitsD da) := PE.imp (pe_bits ho hbase hline) fun σ H Q => by
  rintro ⟨W, ρ, S, r, S', R, hd, k⟩
  obtain ⟨⟨d, S1⟩, e1, hd⟩ := bindS hd
  obtain ⟨z, e2, hd⟩ := mapS hd
  cases hd
  cases d <;> simp only [bitsD, reduceCtorEq] at e2
  cases e2
  refine ⟨W, ρ, S, _, _, R, e1, fun W1 v H1 s1 R1 r1 => ?_⟩
  cases r1
  exact ⟨_, rfl, k W1 _ H1 s1 R1 rfl⟩
end
theorem bt_int : bootBuiltins "int" = some (.type "int") := by decide +kernel
theorem bt_abs : bootBuiltins "abs" = some (.builtin "abs") := by decide +kernel
theorem bt_tuple : bootBuiltins "tuple" = some (.type "tuple") := by decide +kernel
theorem bt_list : bootBuiltins "list" = some (.type "list") := by decide +kernel
theorem bt_str : bootBuiltins "str" = some (.type "str") := by decide +kernel
theorem bt_bool : bootBuiltins "bool" = some (.type "bool") := by decide +kernel
def sNever : DS := fun _ _ => none
theorem dps_never [XW] {X : Cx} {st : Stmt} : PS' X st sNever := PS.imp ps_never fun D σ H => by
  rintro ⟨W0, W, ρ, S, o, R, h, k⟩
  cases h
theorem pass_never {P : Program} {w : World} {K : PySem.W.Frag} {mg : Str → Option Value} {base : Heap} {N : List Str} {qual : Str} {scope : Scope} {f : Addr} {cd : Value} {A : Around} {outer : List Env} {s : Shared} {H : Hp} {E : XK} :
    PassesOwn (model P w) (cxOf CX0 P w K mg base N qual scope f cd A outer s H E).nox.A (cxOf CX0 P w K mg base N qual scope f cd A outer s H E).nox.env (cxOf CX0 P w K mg base N qual scope f cd A outer s H E).nox.xe := PassesOwn.never
/-! ### the head -/
section
open He
abbrev AlE : Type := AlD × Bool
def obsE (n : Nat) (fa : List Fa) (fn : List DefD) (ex : PySem.W.Frag → Bool) (g : Addr → Option Obj) : AlE := (obsDG n fa fn g, ex (frG g (asD g n)))
def hookE (n : Nat) (fa : List Fa) (fn : List DefD) (ex : PySem.W.Frag → Bool) : PySem.W.Hook where
  α := AlE
  obs := fun s => obsE n fa fn ex s.heap.get?
  val := fun _ => (valD fn, true)
  says := fun _ h => ∃ K : PySem.W.Frag, K.In h ∧ SaysD fa fn K ∧ ex K = true
  of := fun _ _ e => ⟨_, frG_in, congrArg (fun z : AlE => z.1) e, congrArg (fun z : AlE => z.2) e⟩
  keeps := fun _ _ _ ⟨K, hK, c⟩ k => ⟨K, PySem.W.Frag.In.keeps hK k, c⟩
theorem obsE_eq {n : Nat} {fa : List Fa} {fn : List DefD} {ex : PySem.W.Frag → Bool} {g : Addr → Option Obj} {s : Shared} (h : ∀ a, g a = s.heap.get? a) : obsE n fa fn ex g = (hookE n fa fn ex).obs s := by
  have e : g = s.heap.get? := funext h
  rw [e] <;> rfl
def defD (x : Str) (st : Stmt) : DefD := ⟨(x, none), x, x, defArgs st, defBody st, defScope st, [], []⟩
end
/-- one function object stands at an address -/
theorem fn_same {K : PySem.W.Frag} {f : Addr} {fd fd' : FuncData} {x : Str} {st : Stmt} (F : FunD K x x (defArgs st) (defBody st) (defScope st) [] [] f fd) (h : ∃ oc od osl, K.lookup f = some ⟨oc, od, .func fd', osl⟩) : fd = fd' := by
  obtain ⟨oc', od', osl', l2⟩ := h
  obtain ⟨oc, od, dV, kV, doc, pm, an, cdv, ct, osl, e1, l1, _⟩ := F.ex
  rw [l1] at l2
  cases l2
  rfl
theorem Reps.ints {W : Wd} : ∀ ns : List Int, Reps W (ns.map D.int) (ns.map V.int)
  | [] => rfl
  | n :: ns => ⟨_, _, rfl, rfl, Reps.ints ns⟩
theorem start_spD {K : PySem.W.Frag} {w : World} {H : Hp} {a : Addr} {ns : List Int} {m : DF} {S' : Sh} (hO : Only H) (hS : SqL K H a (ns.map V.int)) (h : m [.rol (ns.map .int)] [] = some (.bl true, S')) : spD ⟨K, w⟩ 1 m [.ref a] H (fun v _ => v = .bl true) fun _ _ _ => False := by
  refine ⟨⟨[], fun _ => none, (some (a, ns.map V.int), w)⟩, [], [.rol (ns.map .int)], .bl true, S', ⟨(fun _ _ z => nomatch z), rfl, (fun i ds z => nomatch z), List.nodup_nil, (fun _ _ => rfl), rfl, fun b vs z => ?_⟩, ⟨.ref a, [], rfl, ⟨a, _, rfl, rfl, Reps.ints ns⟩, rfl⟩, rfl, h, fun W' v H' _ _ r => r⟩
  cases z
  rcases hS with (z | ⟨o, z⟩) | z
  · rcases hO a with q | ⟨o, xs, q⟩ <;> (rw [z] at q; cases q)
  · exact .inl ⟨o, z⟩
  · exact .inr z
theorem walk_D {l : PySem.W.OpenLaw} {k : Nat} {q : Program} {loose : List Str} {XP : (Str → Option Value) → Heap → Prop} {YP : World → Heap → Prop} {d : DefRec} {x : Str} {m : DF}
    (hn : l.most = some 63) (hdf : d.params.defaults = []) (hr : Room k callerA)
    (F : ∀ (w : World) (mg : Str → Option Value) (fa : Addr) (h : Heap), YP w h → h.Ns mainGlobals mg → mg d.name = some (.ref fa) →
      ∃ (K : PySem.W.Frag) (fd : FuncData), K.In h ∧ (∀ (s : Shared) (u : Value), BindsTo s fd ⟨[u], []⟩ [(x, u)]) ∧
        ∀ base : Heap, K.In base → base.Ns mainGlobals mg → FnOk l.prog w K mg base CX0 k fa fd [x] (spD ⟨K, w⟩ 1 m))
    (hm : ∀ ns : List Int, ns.length ≤ 63 → (∀ n ∈ ns, Builtin.Int.intBits n ≤ 1048576) → ∃ S', m [.rol (ns.map .int)] [] = some (.bl true, S')) :
    PySem.W.WalkO q loose XP YP l.row.toRowW d [] (fun f vs => PySem.call f vs) := by
  refine Att.attach_callB hn hdf fun w s₀ s₁ mg mb fa o pm cd doc a vs ns G Y ho hd hcd hmg hobj hints hlen hbits hg => ?_
  obtain ⟨K, fd, KX, hb, hF⟩ := F w mg fa _ Y G.T.g hmg
  obtain ⟨S', hS'⟩ := hm ns hlen hbits
  exact law_call KX G.T.g G.T.b G.T.builtins G.T.nolimit hg hobj hints (Nat.le_trans hlen (by decide)) hr hF hb (fun H hO hS => start_spD hO hS hS') fun H e s' z => z
end DL


namespace DL
open PySem L2
section
variable {X : Cx} {W0 W W1 : Wd} {ρ : Env2} {S S1 : Sh} {σ : L2.St} {H H1 : Hp} {tge e : Expr} {da : DE} {tg : Tg} {pos : Pos}
/-! ### several names at once -/
def sSetT (keep : List Nat) (tg : Tg) (d : DE) : DS := fun ρ S => (d (fzE keep 0 ρ) S).bind fun p => (bindT tg p.1).map fun u => .nx (putS (frz keep 0 ρ) u) p.2
theorem dps_setT [XW] (keep : List Nat) (he : PE' X e da) (hg : PG X tge (tgOf X.KW tg)) (hs : swapsWithSole [tge] e pos.line X.env = pure false := by rfl) (hw : swappedStores [tge] e X.env = pure none := by rfl) (h1 : (assignEach [tge] X.env).map (·.2) = [assign tge X.env] := by rfl) :
    PS' X (.Assign [tge] e pos) (sSetT keep tg da) := PS.imp (ps_asg he hg hs hw h1) fun D σ H => by
  rintro ⟨W0, W, ρ, S, o, R, h, k⟩
  obtain ⟨⟨r, S1⟩, e1, h⟩ := bindS h
  obtain ⟨u, e2, h⟩ := mapS h
  cases h
  exact evF R e1 fun W1 v H1 l R1 r1 => tg_run R1.base tg r v σ u _ e2 r1 fun w q => k W1 _ H1 l (RelS.puts q R1)
end
end DL


namespace DL
open PySem L2
/-! ### slices -/
abbrev DO := Env' → Sh → Option (Option Int × Sh)
def liftO (K : Fr) (d : DO) : TO := fun σ H Q => ∃ W ρ S r S', Rel K W ρ S σ H ∧ d ρ S = some (r, S') ∧ ∀ W' H', Stp W W' H H' → Rel K W' ρ S' σ H' → Q r H'
def oNo : DO := fun _ S => some (none, S)
def oPart (d : DE) : DO := fun ρ S => (d ρ S).bind fun p => match p.1 with
  | .int i => some (some i, p.2)
  | _ => none
def cutD (ds : List D) (lo hi : Option Int) : List D := (ds.drop (HT.sIx ds.length 0 lo)).take (HT.sIx ds.length ds.length hi - HT.sIx ds.length 0 lo)
def sliceD (x : D) (lo hi : Option Int) : Option D := match x with
  | .str z => if z.length ≤ sizeLine then some (.str (cutS z lo hi)) else none
  | .tup ds => some (.tup (cutD ds lo hi))
  | .lst ds => some (.lst (cutD ds lo hi))
  | .rol ds => some (.lst (cutD ds lo hi))
  | _ => none
def dSl (d : DE) (lo hi : DO) : DE := fun ρ S => (d ρ S).bind fun p => (lo ρ p.2).bind fun q => (hi ρ q.2).bind fun r => (sliceD p.1 q.1 r.1).map fun z => (z, r.2)
theorem Reps.drop {W : Wd} : ∀ {n : Nat} {ds : List D} {vs : List V}, Reps W ds vs → Reps W (ds.drop n) (vs.drop n)
  | 0, _, _, h => h
  | n + 1, [], _, h => by obtain rfl : _ = [] := h; exact rfl
  | n + 1, d :: ds, _, h => by
    obtain ⟨v, r, rfl, _, h3⟩ := h
    exact Reps.drop (n := n) h3
theorem Reps.take {W : Wd} : ∀ {n : Nat} {ds : List D} {vs : List V}, Reps W ds vs → Reps W (ds.take n) (vs.take n)
  | 0, _, _, h => by rw [List.take_zero, List.take_zero]; exact rfl
  | n + 1, [], _, h => by obtain rfl : _ = [] := h; exact rfl
  | n + 1, d :: ds, _, h => by
    obtain ⟨v, r, rfl, h2, h3⟩ := h
    exact ⟨v, r.take n, rfl, h2, Reps.take (n := n) h3⟩
theorem Reps.cut {W : Wd} {ds : List D} {vs : List V} (h : Reps W ds vs) (lo hi : Option Int) : Reps W (cutD ds lo hi) (cutV vs lo hi) := by
  unfold cutD cutV
  rw [h.length]
  exact Reps.take (Reps.drop h)
section
variable {X : Cx} {e : Expr} {da : DE} {lo hi : Option Expr} {dlo dhi : DO} {pos p2 : Pos}
theorem dpo_none : PO X none (liftO X.KW oNo) := ⟨fun pins s σ H Q I h => po_none.run pins s σ H Q I (by
  obtain ⟨W, ρ, S, r, S', R, hd, k⟩ := h
  cases hd
  exact k W H (.refl _ _) R)⟩
theorem dpo_some (h : PE' X e da) : PO X (some e) (liftO X.KW (oPart da)) := ⟨fun pins s σ H Q I h' => (po_some h).run pins s σ H Q I (by
  obtain ⟨W, ρ, S, r, S', R, hd, k⟩ := h'
  obtain ⟨⟨x, S1⟩, e1, hd⟩ := bindS hd
  refine ⟨W, ρ, S, x, S1, R, e1, fun W1 v H1 s1 R1 r1 => ?_⟩
  cases x <;> simp only [reduceCtorEq] at hd
  cases hd
  exact ⟨_, r1, k W1 H1 s1 R1⟩)⟩
/-- t[lo:hi]: the whole of it is t itself -/
def rSlZ (K : Fr) : V → Option Int → Option Int → Hp → VK → Prop := fun x lo hi H Q => ∃ a xs, x = .ref a ∧ SqT K H a xs ∧
  (HT.sIx xs.length 0 lo = 0 ∧ HT.sIx xs.length xs.length hi = xs.length → Q (.ref a) H) ∧ (¬ (HT.sIx xs.length 0 lo = 0 ∧ HT.sIx xs.length xs.length hi = xs.length) → ∀ p its, H p = none → Q (.ref p) (upd H p (.frz (tupOb its) (.tup (cutV xs lo hi)))))
theorem sl_tupZ : SlR X (rSlZ X.KW) := by
  intro pins s σ H x v vl vu lo hi sl Q I rx hs pl pu h
  obtain ⟨a, xs, rfl, hx, q1, q2⟩ := h
  cases rx
  obtain ⟨its, r, ht, hz⟩ := I.tuple hx
  have hlen : its.toArray.size = xs.length := by rw [List.size_toArray]; exact r.length.symm
  refine ⟨"tuple", _, PyProof.Rows.slot_tuple_getitem.lookup, ht.typeIs, ?_⟩
  by_cases hw : HT.sIx xs.length 0 lo = 0 ∧ HT.sIx xs.length xs.length hi = xs.length
  · exact getItem_tuple_whole ht hs pl pu (by rw [hlen]; exact hw) ⟨.ref a, H, I, rfl, q1 hw⟩
  · refine HT.getItem_tuple_cut ht hs pl pu (by rw [hlen]; exact hw) ?_ (by rw [hlen]; exact hz)
    rw [hlen]
    refine ⟨.ref s.heap.objs.size, _, I.laid (t' := s.toks) (o := .frz (tupOb ((its.drop (HT.sIx xs.length 0 lo)).take (HT.sIx xs.length xs.length hi - HT.sIx xs.length 0 lo))) (.tup (cutV xs lo hi))) (fun b ob q => Heap.get?_push_of_some _ q) (Nat.le_refl _) ?_, rfl, q2 hw _ _ (I.hok.fresh (Nat.le_refl _))⟩
    exact tupOb_ok (Heap.get?_push_size _ rfl) (Nat.le_trans (cutV_length xs lo hi) hz) ((r.drop (HT.sIx xs.length 0 lo)).take (HT.sIx xs.length xs.length hi - HT.sIx xs.length 0 lo))
theorem dpe_slice (he : PE' X e da) (hl : PO X lo (liftO X.KW dlo)) (hu : PO X hi (liftO X.KW dhi)) : PE' X (.Subscript e (.Slice lo hi none p2) pos) (dSl da dlo dhi) :=
  PE.imp (pe_slice (SlR.or sl_str (SlR.or sl_tupZ sl_list)) he hl hu) fun σ H Q => by
  rintro ⟨W, ρ, S, r, S', R, hd, k⟩
  obtain ⟨⟨x, S1⟩, e1, hd⟩ := bindS hd
  obtain ⟨⟨l, S2⟩, e2, hd⟩ := bindS hd
  obtain ⟨⟨u, S3⟩, e3, hd⟩ := bindS hd
  obtain ⟨z, e4, hd⟩ := mapS hd
  cases hd
  refine ⟨W, ρ, S, x, S1, R, e1, fun W1 v H1 s1 R1 r1 => ⟨W1, ρ, S1, l, S2, R1, e2, fun W2 H2 s2 R2 => ⟨W2, ρ, S2, u, S3, R2, e3, fun W3 H3 s3 R3 => ?_⟩⟩⟩
  have r3 := (r1.mono s2.le).mono s3.le
  have st := (s1.trans s2).trans s3
  cases x with
  | str t =>
    simp only [sliceD, Option.ite_none_right_eq_some] at e4
    obtain ⟨h1, e4⟩ := e4
    cases e4
    cases r3
    exact .inl ⟨t, rfl, h1, k W3 _ H3 st R3 rfl⟩
  | tup ds =>
    cases e4
    obtain ⟨a, vs, rfl, t, q⟩ := r3
    refine .inr (.inl ⟨a, vs, rfl, R3.base.tup t, fun hw => ?_, fun _ p its hp => ?_⟩)
    · refine k W3 _ H3 st R3 ⟨a, vs, rfl, t, ?_⟩
      have hc := q.cut l u
      rwa [show cutV vs l u = vs by unfold cutV; rw [hw.1, hw.2]; simp] at hc
    · obtain ⟨W', s', B', t', _⟩ := R3.base.laidT (x := tupOb its) (vs := cutV vs l u) hp rfl
      exact k W' _ _ (st.trans s') ⟨B', R3.env.mono s'.le⟩ ⟨p, _, rfl, t', (q.cut l u).mono s'.le⟩
  | lst ds =>
    cases e4
    obtain ⟨a, vs, rfl, h3, h4⟩ := r3
    refine .inr (.inr ⟨a, vs, rfl, SqL.of (R3.base.lst h3), fun p hp => ?_⟩)
    obtain ⟨W', s', B', t', _⟩ := R3.base.laid (vs := cutV vs l u) hp
    exact k W' _ _ (st.trans s') ⟨B', R3.env.mono s'.le⟩ ⟨p, _, rfl, t', (h4.cut l u).mono s'.le⟩
  | rol ds =>
    cases e4
    obtain ⟨a, vs, rfl, h3, h4⟩ := r3
    refine .inr (.inr ⟨a, vs, rfl, (R3.base.sa.2 a vs h3).seq, fun p hp => ?_⟩)
    obtain ⟨W', s', B', t', _⟩ := R3.base.laid (vs := cutV vs l u) hp
    exact k W' _ _ (st.trans s') ⟨B', R3.env.mono s'.le⟩ ⟨p, _, rfl, t', (h4.cut l u).mono s'.le⟩
  | _ => cases e4
/-- a slice of a list, as a new list -/
def nSl (d : DE) (lo hi : DO) : DN := fun ρ S => (d ρ S).bind fun p => (lo ρ p.2).bind fun q => (hi ρ q.2).bind fun r => match p.1 with
  | .lst ds => some (cutD ds q.1 r.1, r.2)
  | .rol ds => some (cutD ds q.1 r.1, r.2)
  | _ => none
theorem dn_slice (he : PE' X e da) (hl : PO X lo (liftO X.KW dlo)) (hu : PO X hi (liftO X.KW dhi)) : PN X (.Subscript e (.Slice lo hi none p2) pos) (nSl da dlo dhi) :=
  PE.imp (pe_slice sl_list he hl hu) fun σ H Q => by
  rintro ⟨W, ρ, S, r, S', R, hd, k⟩
  obtain ⟨⟨x, S1⟩, e1, hd⟩ := bindS hd
  obtain ⟨⟨l, S2⟩, e2, hd⟩ := bindS hd
  obtain ⟨⟨u, S3⟩, e3, hd⟩ := bindS hd
  refine ⟨W, ρ, S, x, S1, R, e1, fun W1 v H1 s1 R1 r1 => ⟨W1, ρ, S1, l, S2, R1, e2, fun W2 H2 s2 R2 => ⟨W2, ρ, S2, u, S3, R2, e3, fun W3 H3 s3 R3 => ?_⟩⟩⟩
  have r3 := (r1.mono s2.le).mono s3.le
  have st := (s1.trans s2).trans s3
  have fin : ∀ a vs ds, SqL X.KW H3 a vs → Reps W3 ds vs → some (cutD ds l u, S3) = some (r, S') → ∃ a' xs, V.ref a = .ref a' ∧ SqL X.KW H3 a' xs ∧ ∀ p, H3 p = none → Q (.ref p) (upd H3 p (.lst (cutV xs l u))) := by
    intro a vs ds h3 h4 e
    cases e
    refine ⟨a, vs, rfl, h3, fun p hp => ?_⟩
    obtain ⟨B', s'⟩ := R3.base.alloc (.lst (cutV vs l u)) hp
    refine k W3 p _ _ (st.trans s') ⟨B', R3.env⟩ ⟨upd_same, h4.cut l u, (R3.base.free hp).1, (R3.base.free hp).2, ?_⟩
    cases q : H p with
    | none => rfl
    | some o =>
      obtain ⟨o', z⟩ := st.ex p o q
      rw [hp] at z; cases z
  cases x with
  | lst ds =>
    obtain ⟨a, vs, rfl, h3, h4⟩ := r3
    exact fin a vs ds (SqL.of (R3.base.lst h3)) h4 hd
  | rol ds =>
    obtain ⟨a, vs, rfl, h3, h4⟩ := r3
    exact fin a vs ds (R3.base.sa.2 a vs h3).seq h4 hd
  | _ => cases hd
end
end DL


namespace DL
open PySem L2
/-! ### all, any of a list of bools -/
theorem bt_any : bootBuiltins "any" = some (.builtin "any") := by decide +kernel
theorem bt_all : bootBuiltins "all" = some (.builtin "all") := by decide +kernel
def blsOf : List D → Option (List Bool)
  | [] => some []
  | .bl b :: r => (blsOf r).map fun bs => b :: bs
  | _ :: _ => none
theorem blsOf_rep {W : Wd} : ∀ {ds : List D} {vs : List V} {bs : List Bool}, blsOf ds = some bs → Reps W ds vs → vs = bs.map V.bl
  | [], _, _, h, r => by
    cases h
    obtain rfl : _ = [] := r
    rfl
  | .bl b :: ds, _, _, h, r => by
    obtain ⟨bs, h1, rfl⟩ := mapS h
    obtain ⟨v, r', rfl, r2, r3⟩ := r
    cases r2
    rw [blsOf_rep h1 r3]
    rfl
  | .non :: _, _, _, h, _ | .int _ :: _, _, _, h, _ | .str _ :: _, _, _, h, _ | .ref _ :: _, _, _, h, _ | .tup _ :: _, _, _, h, _ | .lst _ :: _, _, _, h, _ | .rol _ :: _, _, _, h, _ | .dcu _ _ :: _, _, _, h, _ | .dct _ _ :: _, _, _, h, _ => by cases h
def anyO : List D → Option D
  | [.lst ds] => (blsOf ds).map fun bs => .bl (bs.any id)
  | _ => none
def allO : List D → Option D
  | [.lst ds] => (blsOf ds).map fun bs => .bl (bs.all id)
  | _ => none
section
variable {X : Cx}
theorem cd_any (hc : X.calm = true) : CallR X (.builtin "any") (rDc X.KW anyO) := by
  intro pins s σ H xs us Q I r ⟨W, S, ds, z, B, q, hd, k⟩
  unfold anyO at hd
  split at hd
  · obtain ⟨bs, h1, rfl⟩ := mapS hd
    obtain ⟨v, rfl, rv⟩ := reps1 q
    obtain ⟨a, vs, rfl, t, p⟩ := rv
    obtain rfl := blsOf_rep h1 p
    exact cr_any hc pins s σ H _ us Q I r ⟨a, bs, rfl, SqL.of (B.lst t), k W _ H (.refl _ _) B rfl⟩
  · cases hd
theorem cd_all (hc : X.calm = true) : CallR X (.builtin "all") (rDc X.KW allO) := by
  intro pins s σ H xs us Q I r ⟨W, S, ds, z, B, q, hd, k⟩
  unfold allO at hd
  split at hd
  · obtain ⟨bs, h1, rfl⟩ := mapS hd
    obtain ⟨v, rfl, rv⟩ := reps1 q
    obtain ⟨a, vs, rfl, t, p⟩ := rv
    obtain rfl := blsOf_rep h1 p
    exact cr_all hc pins s σ H _ us Q I r ⟨a, bs, rfl, SqL.of (B.lst t), k W _ H (.refl _ _) B rfl⟩
  · cases hd
end
end DL


namespace DL
open PySem L2
/-! ### sep.join(texts) -/
def strsOf : List D → Option (List Str)
  | [] => some []
  | .str b :: r => (strsOf r).map fun bs => b :: bs
  | _ :: _ => none
theorem strsOf_rep {W : Wd} : ∀ {ds : List D} {vs : List V} {bs : List Str}, strsOf ds = some bs → Reps W ds vs → vs = bs.map V.str
  | [], _, _, h, r => by
    cases h
    obtain rfl : _ = [] := r
    rfl
  | .str b :: ds, _, _, h, r => by
    obtain ⟨bs, h1, rfl⟩ := mapS h
    obtain ⟨v, r', rfl, r2, r3⟩ := r
    cases r2
    rw [strsOf_rep h1 r3]
    rfl
  | .non :: _, _, _, h, _ | .int _ :: _, _, _, h, _ | .bl _ :: _, _, _, h, _ | .ref _ :: _, _, _, h, _ | .tup _ :: _, _, _, h, _ | .lst _ :: _, _, _, h, _ | .rol _ :: _, _, _, h, _ | .dcu _ _ :: _, _, _, h, _ | .dct _ _ :: _, _, _, h, _ => by cases h
def joinO (x y : D) : Option D := match x with
  | .str a => (seqD y).bind fun ds => (strsOf ds).bind fun ys => if (ys.map (·.length)).sum + ys.length * a.length ≤ 16777216 then some (.str (Txt.join a ys)) else none
  | _ => none
section
variable {X : Cx} {o e : Expr} {da db : DE} {apos pos : Pos}
theorem dpe_join (ho : PE' X o da) (he : PE' X e db) (hs : starEach [e] X.env = [(false, eval e X.env)] := by rfl) (hbase : attributeBase o "join" X.env (eval o X.env) = eval o X.env := by rfl) (hline : (apos.endLine == pos.line) = true := by rfl) :
    PE' X (.Call (.Attribute o "join" apos) [e] [] pos) (d2 joinO da db) := PE.imp (pe_join ho he hs hbase hline) fun σ H Q => by
  rintro ⟨W, ρ, S, r, S', R, hd, k⟩
  obtain ⟨⟨x, S1⟩, e1, hd⟩ := bindS hd
  obtain ⟨⟨y, S2⟩, e2, hd⟩ := bindS hd
  obtain ⟨z, e3, hd⟩ := mapS hd
  cases hd
  cases x with
  | str a =>
    simp only [joinO] at e3
    obtain ⟨ds, h1, e3⟩ := bindS e3
    obtain ⟨ys, h2, e3⟩ := bindS e3
    simp only [Option.ite_none_right_eq_some] at e3
    obtain ⟨h3, e3⟩ := e3
    cases e3
    refine ⟨W, ρ, S, _, S1, R, e1, fun W1 v H1 s1 R1 r1 => ?_⟩
    cases r1
    refine ⟨⟨a, rfl⟩, W1, ρ, S1, y, S2, R1, e2, fun W2 u H2 s2 R2 r2 => ?_⟩
    obtain ⟨p, vs, rfl, q1, q2⟩ := R2.base.seq r2 h1
    obtain rfl := strsOf_rep h2 q2
    exact ⟨a, p, ys, rfl, rfl, q1, h3, k W2 _ H2 (s1.trans s2) R2 rfl⟩
  | _ => cases e3
end
end DL


namespace DL
open PySem L2
section
variable {X : Cx} {W0 W W1 : Wd} {ρ : Env2} {S S1 : Sh} {σ : L2.St} {H H1 : Hp} {keep : List Nat} {dn : DN} {e : Expr}
/-! ### a new list made beside live own lists -/
theorem evNP {d : DN} {r : List D} {Q : VK} (R : RelS X W0 W ρ S σ H) (e : d (fzE keep 0 ρ) S = some (r, S1)) (hS : chk keep S1 = true) (hp : pureDs r = true)
    (k : ∀ W2 p vs H1, Le W W2 → RelS X W0 W2 ρ S1 σ H1 → Fresh W2 H H1 p r vs → Away X W2 ρ σ H1 (fun b => b = p) → Q (.ref p) H1) : liftN X.KW d σ H Q :=
  ⟨_, _, S, r, S1, wF_rel keep R, e, fun W1 p vs H1 s R1 f => by
    obtain ⟨W2, R2, _, t2, t3, m2, O2, l2⟩ := wP keep R s R1.base hS
    exact k W2 p vs H1 l2 R2 ⟨f.at_, t2 r vs (.inl hp) f.rep, t3 p f.t, by rw [m2]; exact f.m, f.new⟩ ⟨R.F, O2, fun i a e q => by
      obtain ⟨_, _, _, o, z, _⟩ := R.oF.low i a q
      rw [show a = p from e, f.new] at z; cases z⟩⟩
def sSetOP (keep : List Nat) (i : Nat) (d : DN) : DS := fun ρ S => (d (fzE keep 0 ρ) S).bind fun p => if chk keep p.2 && pureDs p.1 then some (.nx (ρ.set i (.own p.1)) p.2) else none
theorem setOP_of [XW] (keep : List Nat) {i : Nat} {st : Stmt} (h : PS X st (tAsg (liftN X.KW dn) (gName i))) : PS' X st (sSetOP keep i dn) := PS.imp h fun D σ H => by
  rintro ⟨W0, W, ρ, S, o, R, h, k⟩
  obtain ⟨⟨r, S1⟩, e1, h⟩ := bindS h
  simp only [Option.ite_none_right_eq_some, Bool.and_eq_true] at h
  obtain ⟨⟨h1, h2⟩, h⟩ := h
  cases h
  refine evNP R e1 h1 h2 fun W1 p vs H1 l R1 f hn => ?_
  have hH : X.H_0 p = none := by
    cases q : X.H_0 p with
    | none => rfl
    | some o =>
      obtain ⟨o', z⟩ := R.ent.ex p o q
      rw [f.new] at z; cases z
  exact k W1 _ H1 l (R1.setOwn i f.at_ f.rep f.t f.m hH hn)
theorem dps_setOP [XW] (keep : List Nat) {i : Nat} {x : Str} {pos' pos : Pos} (hN : X.N.Nodup) (hi : X.N[i]? = some x) (hx : Loc X.env.scope x) (he : PN X e dn) (hs : swapsWith e (some (.Name x pos')) pos.line X.env = pure false := by rfl) (hf : X.fn x = true ∨ X.env.scope.names.lookup x = some .local := by first | exact .inl rfl | exact .inr rfl | assumption) :
    PS' X (.Assign [.Name x pos'] e pos) (sSetOP keep i dn) := setOP_of keep (ps_set hN hi hx he hs hf)
end
end DL


namespace DL
open PySem L2
section
variable {X : Cx}
/-! ### a module's constants -/
theorem dpe_gs {x z : Str} {pos : Pos} (hm : ∃ t, X.mg x = some (.str z t)) (hg : Gl X x := by rfl) (hd : (x == ("__debug__" : Str)) = false := by decide) : PE' X (.Name x pos) (dC (.str z)) :=
  liftC (t := tC (.str z)) (C8.pe_gc (v := (.str z)) hg (hm.elim fun t h => ⟨_, h, (⟨t, rfl⟩ : RelV (V.str z) _)⟩) hd) fun _ => rfl
theorem dpe_gi {x : Str} {i : Int} {pos : Pos} (hm : ∃ t, X.mg x = some (.int i t)) (hg : Gl X x := by rfl) (hd : (x == ("__debug__" : Str)) = false := by decide) : PE' X (.Name x pos) (dC (.int i)) :=
  liftC (t := tC (.int i)) (C8.pe_gc (v := (.int i)) hg (hm.elim fun t h => ⟨_, h, (⟨t, rfl⟩ : RelV (V.int i) _)⟩) hd) fun _ => rfl
end
end DL


namespace DL
open PySem L2
/-! ### max, min, sum -/
theorem bt_max : bootBuiltins "max" = some (.builtin "max") := by decide +kernel
theorem bt_min : bootBuiltins "min" = some (.builtin "min") := by decide +kernel
theorem bt_sum : bootBuiltins "sum" = some (.builtin "sum") := by decide +kernel
def intsOf : List D → Option (List Int)
  | [] => some []
  | .int b :: r => (intsOf r).map fun bs => b :: bs
  | _ :: _ => none
theorem intsOf_rep {W : Wd} : ∀ {ds : List D} {vs : List V} {bs : List Int}, intsOf ds = some bs → Reps W ds vs → vs = bs.map V.int
  | [], _, _, h, r => by
    cases h
    obtain rfl : _ = [] := r
    rfl
  | .int b :: ds, _, _, h, r => by
    obtain ⟨bs, h1, rfl⟩ := mapS h
    obtain ⟨v, r', rfl, r2, r3⟩ := r
    cases r2
    rw [intsOf_rep h1 r3]
    rfl
  | .non :: _, _, _, h, _ | .str _ :: _, _, _, h, _ | .bl _ :: _, _, _, h, _ | .ref _ :: _, _, _, h, _ | .tup _ :: _, _, _, h, _ | .lst _ :: _, _, _, h, _ | .rol _ :: _, _, _, h, _ | .dcu _ _ :: _, _, _, h, _ | .dct _ _ :: _, _, _, h, _ => by cases h
def maxO : List D → Option D
  | [.lst ds] => (intsOf ds).bind fun ns => ns.max?.map .int
  | [.int i, .int j] => some (.int (if j > i then j else i))
  | _ => none
def minO : List D → Option D
  | [.lst ds] => (intsOf ds).bind fun ns => ns.min?.map .int
  | [.int i, .int j] => some (.int (if j < i then j else i))
  | _ => none
def sumO : List D → Option D
  | [.lst ds] => (intsOf ds).map fun ns => .int ns.sum
  | _ => none
section
variable {X : Cx}
theorem cd_max (hc : X.calm = true) : CallR X (.builtin "max") (rDc X.KW maxO) := by
  intro pins s σ H xs us Q I r ⟨W, S, ds, z, B, q, hd, k⟩
  unfold maxO at hd
  split at hd
  · obtain ⟨ns, h1, hd⟩ := bindS hd
    obtain ⟨m, h2, rfl⟩ := mapS hd
    obtain ⟨v, rfl, rv⟩ := reps1 q
    obtain ⟨a, vs, rfl, t, p⟩ := rv
    obtain rfl := intsOf_rep h1 p
    have h3 := List.max?_eq_some_iff.1 h2
    refine cr_max hc pins s σ H _ us Q I r ⟨a, ns, rfl, SqL.of (B.lst t), List.length_pos_of_mem h3.1, fun m' hm1 hm2 => ?_⟩
    have e : m' = m := Int.le_antisymm (h3.2 m' hm1) (hm2 m h3.1)
    rw [e]
    exact k W _ H (.refl _ _) B rfl
  · cases hd
    obtain ⟨x, y, rfl, r1, r2⟩ := reps2 q
    cases r1
    cases r2
    exact call_max2 hc pins s σ H _ us Q I r ⟨_, _, rfl, k W _ H (.refl _ _) B rfl⟩
  · cases hd
theorem cd_min (hc : X.calm = true) : CallR X (.builtin "min") (rDc X.KW minO) := by
  intro pins s σ H xs us Q I r ⟨W, S, ds, z, B, q, hd, k⟩
  unfold minO at hd
  split at hd
  · obtain ⟨ns, h1, hd⟩ := bindS hd
    obtain ⟨m, h2, rfl⟩ := mapS hd
    obtain ⟨v, rfl, rv⟩ := reps1 q
    obtain ⟨a, vs, rfl, t, p⟩ := rv
    obtain rfl := intsOf_rep h1 p
    have h3 := List.min?_eq_some_iff.1 h2
    refine cr_min hc pins s σ H _ us Q I r ⟨a, ns, rfl, SqL.of (B.lst t), List.length_pos_of_mem h3.1, fun m' hm1 hm2 => ?_⟩
    have e : m' = m := Int.le_antisymm (hm2 m h3.1) (h3.2 m' hm1)
    rw [e]
    exact k W _ H (.refl _ _) B rfl
  · cases hd
    obtain ⟨x, y, rfl, r1, r2⟩ := reps2 q
    cases r1
    cases r2
    exact call_min2 hc pins s σ H _ us Q I r ⟨_, _, rfl, k W _ H (.refl _ _) B rfl⟩
  · cases hd
end
end DL


namespace DL
open PySem L2
section
variable {X : Cx} {W0 W W1 : Wd} {ρ : Env2} {S S1 : Sh} {σ : L2.St} {H H1 : Hp} {keep : List Nat} {dl : DA} {c : Expr} {pos : Pos}
/-! ### own lists changed by a method -/
def mutA (g : List D → List D → Option (List D)) (i : Nat) (ρ : Env2) (args : List D) (S : Sh) : Option Out := match ρ[i]? with
  | some (.own ds) => (g ds args).map fun ds' => .nx (ρ.set i (.own ds')) S
  | _ => none
def sMutAF (g : List D → List D → Option (List D)) (keep : List Nat) (i : Nat) (dl : DA) : DS := fun ρ S => (dl (fzE keep 0 ρ) S).bind fun p => mutA g i (frz keep 0 ρ) p.1 p.2
def sMutAP (g : List D → List D → Option (List D)) (keep : List Nat) (i : Nat) (dl : DA) : DS := fun ρ S => (dl (fzE keep 0 ρ) S).bind fun p => if chk keep p.2 && pureDs p.1 then mutA g i ρ p.1 p.2 else none
def MutR (K : Fr) (r : V → List V → Hp → VK → Prop) (g : List D → List D → Option (List D)) : Prop :=
  ∀ (W : Wd) (S : Sh) (H : Hp) (a : Addr) (ds : List D) (vs : List V) (args : List D) (xs : List V) (ds' : List D) (Q : VK), Base K W S H → H a = some (.lst vs) → Reps W ds vs → Reps W args xs → g ds args = some ds' →
    (∀ vs', Reps W ds' vs' → Q .non (upd H a (.lst vs'))) → r (.ref a) xs H Q
theorem mutA_inv {g : List D → List D → Option (List D)} {i : Nat} {args : List D} {out : Out} (h : mutA g i ρ args S = some out) : ∃ ds ds', ρ[i]? = some (.own ds) ∧ g ds args = some ds' ∧ out = .nx (ρ.set i (.own ds')) S := by
  unfold mutA at h
  split at h
  · rename_i ds q
    obtain ⟨ds', h1, rfl⟩ := mapS h
    exact ⟨ds, ds', q, h1, rfl⟩
  · cases h
theorem mutA_run [XW] {r : V → List V → Hp → VK → Prop} {g : List D → List D → Option (List D)} {En : Ends} {i : Nat} {args : List D} {xs : List V} {x : V} {out : Out} (hr : MutR X.KW r g) (R : RelS X W0 W ρ S σ H) (hx : σ[i]? = some (some x))
    (rs : Reps W args xs) (h : mutA g i ρ args S = some out) (k : After X W0 W En out) : r x xs H (fun _ H1 => En.nx σ H1) := by
  obtain ⟨ds, ds', h1, h2, rfl⟩ := mutA_inv h
  obtain ⟨a, vs, k1, k2, k3, k4, k5, k6⟩ := R.own i ds h1
  rw [hx] at k1
  cases k1
  exact hr W S H a ds vs args xs ds' _ R.base k2 k3 rs h2 fun vs' r' => k W σ _ (.refl _) (R.upd h1 hx r')
theorem dps_mutAF [XW] {r : V → List V → Hp → VK → Prop} {g : List D → List D → Option (List D)} (keep : List Nat) {i : Nat} (hr : MutR X.KW r g) (ho : PE X c (tBM X.KW "list" r (tVar i) (liftA X.KW dl)))
    (hs : swapsWith c none pos.line X.env = pure false := by rfl) : PS' X (.Expr c pos) (sMutAF g keep i dl) := PS.imp (ps_expr ho hs) fun D σ H => by
  rintro ⟨W0, W, ρ, S, o, R, h, k⟩
  obtain ⟨⟨as, S1⟩, e1, h⟩ := bindS h
  obtain ⟨ds, ds', h1, h2, h3⟩ := mutA_inv h
  obtain ⟨a, vs, q1, q2⟩ := own_slot R (frz_own h1)
  refine ⟨_, q1, .inl ⟨rfl, _, SqL.of q2⟩, _, _, S, as, S1, wF_rel keep R, e1, fun W1 xs H1 s R1 r1 => ?_⟩
  exact mutA_run hr ((wF_relS keep R).step s R1.base) q1 r1 h (k.le ((wF_le keep R).trans s.le))
theorem dps_mutAP [XW] {r : V → List V → Hp → VK → Prop} {g : List D → List D → Option (List D)} (keep : List Nat) {i : Nat} (hr : MutR X.KW r g) (ho : PE X c (tBM X.KW "list" r (tVar i) (liftA X.KW dl)))
    (hs : swapsWith c none pos.line X.env = pure false := by rfl) : PS' X (.Expr c pos) (sMutAP g keep i dl) := PS.imp (ps_expr ho hs) fun D σ H => by
  rintro ⟨W0, W, ρ, S, o, R, h, k⟩
  obtain ⟨⟨as, S1⟩, e1, h⟩ := bindS h
  simp only [Option.ite_none_right_eq_some, Bool.and_eq_true] at h
  obtain ⟨⟨hS, hp⟩, h⟩ := h
  obtain ⟨ds, ds', h1, h2, h3⟩ := mutA_inv h
  obtain ⟨a, vs, q1, q2⟩ := own_slot R h1
  refine ⟨_, q1, .inl ⟨rfl, _, SqL.of q2⟩, evAP R e1 hS fun W1 xs H1 l R1 r1 => ?_⟩
  exact mutA_run hr R1 q1 (r1 hp) h (k.le l)
/-! insert, extend -/
def insertO (ds : List D) : List D → Option (List D)
  | [.int i, d] => if ds.length < sizeLine ∧ 0 ≤ i ∧ i < 2 ^ 62 then some (ds.take i.toNat ++ [d] ++ ds.drop i.toNat) else none
  | _ => none
abbrev rIns : V → List V → Hp → VK → Prop := fun x vs H Q => ∃ (l : Addr) (xs : List V) (i : Int) (y : V), x = .ref l ∧ vs = [.int i, y] ∧ H l = some (.lst xs) ∧ xs.length < sizeLine ∧ 0 ≤ i ∧ i < 2 ^ 63 ∧
    Q .non (upd H l (.lst (xs.take i.toNat ++ [y] ++ xs.drop i.toNat)))
theorem mut_insert : MutR X.KW rIns insertO := by
  intro W S H a ds vs args xs ds' Q B hH r1 r2 h k
  unfold insertO at h
  split at h
  · simp only [Option.ite_none_right_eq_some, Option.some.injEq] at h
    obtain ⟨⟨h1, h2, h3⟩, rfl⟩ := h
    obtain ⟨x, y, rfl, q1, q2⟩ := reps2 r2
    cases q1
    exact ⟨a, vs, _, y, rfl, rfl, hH, by rw [r1.length]; exact h1, h2, by omega, k _ (((r1.take).append (Reps.one q2)).append r1.drop)⟩
  · cases h
def extendO (ds : List D) : List D → Option (List D)
  | [.lst es] => if ds.length + es.length ≤ sizeLine then some (ds ++ es) else none
  | [.tup es] => if ds.length + es.length ≤ sizeLine then some (ds ++ es) else none
  | _ => none
/-- a list extended by a tuple, of whatever make -/
theorem list_extend_tupleG (l : Addr) (items : Array Value) (n : Nat) (b : Addr) (items2 : Array Value) (n2 : Nat) (o : Obj) (ho : o.cls = .type "tuple") (hd : o.data = .seq items2 n2) (hs0 : ¬(!items.isEmpty && Builtin.List.listTooLong (items.size + items2.size)) = true) (hs1 : items.size ≤ sizeLine) (hs2 : items.size + items2.size ≤ sizeLine + 1) :
    Meets (Builtin.«list.extend» ⟨[.ref l, .ref b], []⟩) (fun _ R s => s.heap.get? l = some { cls := .type "list", dict := none, data := .seq items n, slots := #[] } ∧ s.heap.get? b = some o ∧ R (.ok (.ret Value.none)) { s with heap := s.heap.update l (Obj.mapSeq fun x => x ++ items2), toks := s.toks }) :=
  .of_wp fun prog w A R s h => by
    obtain ⟨ocls, odict, odata, oslots⟩ := o
    simp only at ho hd
    subst ho; subst hd
    obtain ⟨hp, g, d, tk, os⟩ := s; obtain ⟨hl, hb, h⟩ := h; have f1 := AutoSeq1.idx_int; have f2 := AutoSeq1.sub_tuple_tuple; have f3 := AutoSeq1.sub_list_list; have f4 := AutoSeq1.sub_tuple_list; have f5 := AutoSeq1.sub_list_tuple
    have hz' : (items ++ items2).size ≤ sizeLine + 1 := by rw [Array.size_append]; exact hs2
    wp_walk using (wpAny_updateSeq hl rfl (hz := hs1) (_hz' := hz')), AutoSeq1.wpAny_loadPart' hl, AutoSeq1.wpAny_loadPart' hb; exact ⟨_, rfl, h⟩
/-- extend by a list or a tuple -/
def rExt2 (K : Fr) : V → List V → Hp → VK → Prop := fun x vs H Q => ∃ l b xs zs, x = .ref l ∧ vs = [.ref b] ∧ H l = some (.lst xs) ∧ (H b = some (.lst zs) ∨ SqT K H b zs) ∧ xs.length + zs.length ≤ sizeLine ∧ Q .non (upd H l (.lst (xs ++ zs)))
theorem mt_ext2 : MtM X "list.extend" (rExt2 X.KW) := by
  intro pins s σ H x vs v us Q I rx rv h
  obtain ⟨l, b, xs, zs, rfl, rfl, hH, hB | hB, hz, q⟩ := h
  · exact mt_extend pins s σ H _ _ v us Q I rx rv ⟨l, b, xs, zs, rfl, rfl, hH, hB, hz, q⟩
  · cases rx
    obtain ⟨u, rfl, ru⟩ := rv.one
    cases ru
    obtain ⟨z, its, n, r, hl, e⟩ := I.lstM hH
    obtain ⟨its2, r2, ⟨o2, e2, ho, n2, hd⟩, hz2⟩ := I.tuple hB
    have hl2 : zs.length = its2.length := r2.length
    have hsz : its.toArray.size + its2.toArray.size ≤ sizeLine := by rw [List.size_toArray, List.size_toArray]; omega
    have hlong : ¬ (!its.toArray.isEmpty && Builtin.List.listTooLong (its.toArray.size + its2.toArray.size)) = true := by
      rw [notLongL hsz, Bool.and_false]
      exact Bool.false_ne_true
    refine call_meets F.slot_list_extend ⟨_, e, rfl⟩ F.entry_list_extend (F.args_list_extend_2 _ _)
      (list_extend_tupleG l its.toArray n b its2.toArray n2 o2 ho hd hlong (by rw [List.size_toArray]; omega) (by omega)) ⟨e, e2, ?_⟩
    refine ⟨.non, _, I.lset (its' := its ++ its2) hH e (by simp) (r.append r2) ?_, rfl, q⟩
    rw [List.length_append]
    omega
theorem mut_extend : MutR X.KW (rExt2 X.KW) extendO := by
  intro W S H a ds vs args xs ds' Q B hH r1 r2 h k
  unfold extendO at h
  split at h
  · simp only [Option.ite_none_right_eq_some, Option.some.injEq] at h
    obtain ⟨h1, rfl⟩ := h
    obtain ⟨x, rfl, q1⟩ := reps1 r2
    obtain ⟨b, ws, rfl, t, q⟩ := q1
    exact ⟨a, b, vs, ws, rfl, rfl, hH, .inl (B.lst t), by rw [r1.length, q.length]; exact h1, k _ (r1.append q)⟩
  · simp only [Option.ite_none_right_eq_some, Option.some.injEq] at h
    obtain ⟨h1, rfl⟩ := h
    obtain ⟨x, rfl, q1⟩ := reps1 r2
    obtain ⟨b, ws, rfl, t, q⟩ := q1
    exact ⟨a, b, vs, ws, rfl, rfl, hH, .inr (B.tup t), by rw [r1.length, q.length]; exact h1, k _ (r1.append q)⟩
  · cases h
theorem ins_rule {i : Nat} {o e e2 : Expr} {apos cpos : Pos} (ho : PE X o (tVar i)) (ha : PA' X [e, e2] dl) (hbase : attributeBase o "insert" X.env (eval o X.env) = eval o X.env := by rfl)
    (hfew : ((backTo cpos (starEach [e, e2] X.env)).all (fun x => !x.1) && (backToKw cpos (keywordEach [] X.env)).all (fun x => x.1.isSome)
      && decide ([e, e2].length + ([] : List Keyword).length + (if ([] : List Keyword).isEmpty then 0 else 1) < 30)) = true := by rfl)
    (hline : (apos.endLine == cpos.line) = true := by rfl) (hs : starEach [e, e2] X.env = (false, eval e X.env) :: starEach [e2] X.env := by rfl) (hplain : (backTo cpos (starEach [e2] X.env)).any (·.1) = false := by rfl) :
    PE X (.Call (.Attribute o "insert" apos) [e, e2] [] cpos) (tBM X.KW "list" rIns (tVar i) (liftA X.KW dl)) :=
  pe_bm PySem.F.plainAttrs_list PySem.F.slot_list_insert PySem.F.type_list_insert mt_insert ho ha hbase hfew hline hs hplain
theorem ext_rule {i : Nat} {o e : Expr} {apos cpos : Pos} (ho : PE X o (tVar i)) (ha : PA' X [e] dl) (hbase : attributeBase o "extend" X.env (eval o X.env) = eval o X.env := by rfl)
    (hfew : ((backTo cpos (starEach [e] X.env)).all (fun x => !x.1) && (backToKw cpos (keywordEach [] X.env)).all (fun x => x.1.isSome)
      && decide ([e].length + ([] : List Keyword).length + (if ([] : List Keyword).isEmpty then 0 else 1) < 30)) = true := by rfl)
    (hline : (apos.endLine == cpos.line) = true := by rfl) (hs : starEach [e] X.env = (false, eval e X.env) :: starEach [] X.env := by rfl) (hplain : (backTo cpos (starEach [] X.env)).any (·.1) = false := by rfl) :
    PE X (.Call (.Attribute o "extend" apos) [e] [] cpos) (tBM X.KW "list" (rExt2 X.KW) (tVar i) (liftA X.KW dl)) :=
  pe_bm PySem.F.plainAttrs_list PySem.F.slot_list_extend PySem.F.type_list_extend mt_ext2 ho ha hbase hfew hline hs hplain
end
end DL


namespace DL
open PySem L2
section
variable {X : Cx} {a b : Expr} {da db : DE} {pos : Pos}
/-! ### a text times an int -/
def repS (x : Str) (n : Nat) : Str := ⟨(List.replicate n x.cps).foldl (· ++ ·) #[]⟩
theorem foldl_app (c : Array Nat) : ∀ (n : Nat) (a : Array Nat), ((List.replicate n c).foldl (· ++ ·) a).size = a.size + c.size * n
  | 0, a => by simp
  | n + 1, a => by
    rw [List.replicate_succ, List.foldl_cons, foldl_app c n, Array.size_append, Nat.mul_succ]
    omega
theorem rep_len (x : Str) (n : Nat) : (repS x n).length = x.length * n := by
  show ((List.replicate n x.cps).foldl (· ++ ·) #[]).size = _
  rw [foldl_app]
  simp
  rfl
def mulXD : D → D → Option D
  | .str x, .int n => if 2 ≤ n ∧ n < 16777216 ∧ 0 < x.length ∧ x.length * n.toNat ≤ sizeLine then some (.str (repS x n.toNat)) else none
  | x, y => mulD x y
theorem od_mulX : OpR X (binaryOp .Mult) (rD X.KW mulXD) := by
  intro pins s σ H x y v u Q I rx ry ⟨W, S, dx, dy, z, B, r1, r2, hd, k⟩
  by_cases hs : ∃ t n, dx = .str t ∧ dy = .int n
  · obtain ⟨t, n, rfl, rfl⟩ := hs
    simp only [mulXD, Option.ite_none_right_eq_some] at hd
    obtain ⟨⟨h1, h2, h3, h4⟩, hd⟩ := hd
    cases hd
    cases r1
    cases r2
    obtain ⟨tk, rfl⟩ := rx
    obtain ⟨tk2, rfl⟩ := ry
    refine PySem.P.mul_str ?_ (fun _ _ => ?_) (fun _ _ => ?_) ?_
    · rw [decide_eq_false (by omega), decide_eq_false (by omega)]; rfl
    · obtain ⟨m, rfl⟩ := Int.eq_ofNat_of_zero_le (show 0 ≤ n by omega)
      have h5 : (t.length : Int) * (m : Int) ≤ 2 ^ 63 - 1 := by
        have : t.length * m ≤ sizeLine := h4
        have e : (t.length : Int) * (m : Int) = ((t.length * m : Nat) : Int) := by simp
        rw [e]
        unfold sizeLine at this
        omega
      have := Int.le_ediv_of_mul_le (show (0 : Int) < (m : Int) by omega) h5
      omega
    · have h5 : t.length * n.toNat ≤ 16777216 := h4
      unfold Builtin.Str.tooLong
      simp only [decide_eq_false_iff_not, gt_iff_lt]
      omega
    · have hn1 : (n == 1) = false := by rw [beq_eq_false_iff_ne]; omega
      have hx0 : (t.length == 0) = false := by rw [beq_eq_false_iff_ne]; omega
      rw [if_neg (by omega), if_neg (by rw [hn1, hx0]; decide)]
      refine ⟨by rw [show (Str.mk (List.foldl (fun x1 x2 => x1 ++ x2) #[] (List.replicate n.toNat t.cps))).length = t.length * n.toNat from rep_len t n.toNat]; exact h4, ?_⟩
      exact ⟨.str _, H, I.tok _, ⟨_, rfl⟩, k W _ H (.refl _ _) B rfl⟩
  · have hd' : mulD dx dy = some z := by
      cases dx with
      | str t =>
        cases dy with
        | int n => exact absurd ⟨t, n, rfl, rfl⟩ hs
        | _ => exact hd
      | _ => exact hd
    exact od_mul pins s σ H x y v u Q I rx ry ⟨W, S, dx, dy, z, B, r1, r2, hd', k⟩
theorem dpe_mulX (ha : PE' X a da) (hb : PE' X b db) : PE' X (.BinOp a .Mult b pos) (d2 mulXD da db) := lift2 (fun h1 h2 => pe_op od_mulX h1 h2) ha hb
end
end DL


/-! DL22: data as PyData -/
namespace DL
open PySem L2
open PySem.W (alike alikeAll AllAlike Sortable dataLe EachIs)
mutual
def pd : D → PyData
  | .non => .none
  | .bl b => .bool b
  | .int i => .int i
  | .str s => .str s
  | .tup ds => .tuple (pds ds)
  | .lst ds => .list (pds ds)
  | _ => .none
def pds : List D → List PyData
  | [] => []
  | d :: ds => pd d :: pds ds
end
mutual
theorem pd_depth : ∀ (n : Nat) (d : D), eqOk n d = true → (pd d).depth ≤ n
  | _, .non, _ => by simp [pd, PyData.depth]
  | _, .bl _, _ => by simp [pd, PyData.depth]
  | _, .int _, _ => by simp [pd, PyData.depth]
  | _, .str _, _ => by simp [pd, PyData.depth]
  | 0, .tup ds, h => by simp [eqOk] at h
  | n + 1, .tup ds, h => by
    have := pds_depth n ds (by simpa [eqOk] using h)
    simp only [pd, PyData.depth]; omega
  | 0, .lst ds, h => by simp [eqOk] at h
  | n + 1, .lst ds, h => by
    have := pds_depth n ds (by simpa [eqOk] using h)
    simp only [pd, PyData.depth]; omega
  | _, .rol ds, h => by simp [eqOk] at h
  | _, .ref ds, h => by simp [eqOk] at h
  | _, .dcu ds es, h => by simp [eqOk] at h
  | _, .dct ds es, h => by simp [eqOk] at h
theorem pds_depth : ∀ (n : Nat) (ds : List D), eqOks n ds = true → PyData.depthAll (pds ds) ≤ n
  | _, [], _ => by simp [pds, PyData.depthAll]
  | n, d :: ds, h => by
    rw [eqOks, Bool.and_eq_true] at h
    have h1 := pd_depth n d h.1
    have h2 := pds_depth n ds h.2
    simp only [pds, PyData.depthAll]
    omega
end
section
variable {X : Cx} {pins : List (Addr × Obj)} {σ : L2.St} {H : Hp} {s : Shared} {W : Wd} {S : Sh}
mutual
theorem reads_of (I : Inv X pins σ H s) (B : Base X.KW W S H) : ∀ (n : Nat) (d : D) {x : V} {v : Value}, eqOk n d = true → Rep W d x → RelV x v → ∃ as, Reads s.heap v (pd d) as
  | _, .non, x, v, _, h, r => by
    obtain rfl : x = .non := h
    obtain rfl : v = Value.none := r
    exact ⟨_, .none⟩
  | _, .bl b, x, v, _, h, r => by
    obtain rfl : x = .bl b := h
    obtain rfl : v = Value.bool b := r
    exact ⟨_, .bool b⟩
  | _, .int b, x, v, _, h, r => by
    obtain rfl : x = .int b := h
    obtain ⟨t, rfl⟩ : ∃ t, v = Value.int b t := r
    exact ⟨_, .int b t⟩
  | _, .str b, x, v, _, h, r => by
    obtain rfl : x = .str b := h
    obtain ⟨t, rfl⟩ : ∃ t, v = Value.str b t := r
    exact ⟨_, .str b t⟩
  | 0, .tup ds, x, v, o, _, _ => by simp [eqOk] at o
  | n + 1, .tup ds, x, v, o, h, r => by
    obtain ⟨a, vs, us, rfl, rfl, h1, h2, ⟨ob, g1, g2, m, g3⟩, _⟩ := Base.isTup I B h r
    obtain ⟨as, q⟩ := readss_of I B n ds (by simpa [eqOk] using o) h1 h2
    exact ⟨as, .tuple g1 g2 g3 q⟩
  | 0, .lst ds, x, v, o, _, _ => by simp [eqOk] at o
  | n + 1, .lst ds, x, v, o, h, r => by
    obtain ⟨a, vs, us, rfl, rfl, h1, h2, ⟨ob, g1, g2, m, g3⟩, _⟩ := Base.isLst I B h r
    obtain ⟨as, q⟩ := readss_of I B n ds (by simpa [eqOk] using o) h1 h2
    exact ⟨_, .list g1 g2 g3 q⟩
  | _, .rol ds, _, _, h, _, _ => by simp [eqOk] at h
  | _, .ref ds, _, _, h, _, _ => by simp [eqOk] at h
  | _, .dcu ds es, _, _, h, _, _ => by simp [eqOk] at h
  | _, .dct ds es, _, _, h, _, _ => by simp [eqOk] at h
theorem readss_of (I : Inv X pins σ H s) (B : Base X.KW W S H) : ∀ (n : Nat) (ds : List D) {xs : List V} {vs : List Value}, eqOks n ds = true → Reps W ds xs → Vals xs vs → ∃ as, ReadsAll s.heap vs (pds ds) as
  | _, [], _, _, _, h, r => by
    obtain rfl : _ = [] := h
    cases r
    exact ⟨_, .nil⟩
  | n, d :: ds, _, _, o, h, r => by
    obtain ⟨x, xs, rfl, h1, h2⟩ := h
    rw [eqOks, Bool.and_eq_true] at o
    cases r with
    | cons r1 r2 =>
      obtain ⟨as, q1⟩ := reads_of I B n d o.1 h1 r1
      obtain ⟨bs, q2⟩ := readss_of I B n ds o.2 h2 r2
      exact ⟨_, .cons q1 q2⟩
end
end
def isTup1 : D → Bool
  | .tup (_ :: _) => true
  | _ => false
def notTupN : D → Bool
  | .tup _ => false
  | .non => false
  | .bl _ => true | .int _ => true | .str _ => true | .lst _ => true
  | _ => false
def lstD : D → Option (List D)
  | .lst ds => some ds
  | .rol ds => some ds
  | _ => none
theorem Base.lst_seq {K : Fr} {W : Wd} {S : Sh} {H : Hp} (B : Base K W S H) {d : D} {v : V} {ds : List D} (r : Rep W d v) (e : lstD d = some ds) : ∃ a vs, v = .ref a ∧ SqL K H a vs ∧ Reps W ds vs := by
  cases d with
  | lst xs =>
    cases e
    obtain ⟨a, vs, h1, h2, h3⟩ := r
    exact ⟨a, vs, h1, SqL.of (B.lst h2), h3⟩
  | rol xs =>
    cases e
    obtain ⟨a, vs, h1, h2, h3⟩ := r
    exact ⟨a, vs, h1, (B.sa.2 a vs h2).seq, h3⟩
  | _ => cases e
theorem each_of {W : Wd} : ∀ {ds : List D} {xs : List V} {vs : List Value}, Reps W ds xs → Vals xs vs → EachIs (fun v d => ∃ x, RelV x v ∧ Rep W d x) vs ds
  | [], _, _, h, r => by
    obtain rfl : _ = [] := h
    cases r
    exact .nil
  | d :: ds, _, _, h, r => by
    obtain ⟨x, xs, rfl, h1, h2⟩ := h
    cases r with
    | cons r1 r2 => exact .cons ⟨x, r1, h1⟩ (each_of h2 r2)
theorem of_each {W : Wd} : ∀ {ds : List D} {vs : List Value}, EachIs (fun v d => ∃ x, RelV x v ∧ Rep W d x) vs ds → ∃ xs, Reps W ds xs ∧ Vals xs vs
  | _, _, .nil => ⟨[], rfl, .nil⟩
  | _, _, .cons ⟨x, r1, h1⟩ t => by
    obtain ⟨xs, h2, r2⟩ := of_each t
    exact ⟨x :: xs, ⟨x, xs, rfl, h1, h2⟩, .cons r1 r2⟩
theorem each_and {α β : Type} {R R' : α → β → Prop} {P : β → Prop} (h : ∀ a b, P b → R a b → R' a b) : ∀ {as : List α} {bs : List β}, (∀ b ∈ bs, P b) → EachIs R as bs → EachIs R' as bs
  | _, _, _, .nil => .nil
  | _, _, p, .cons r t => .cons (h _ _ (p _ (by simp)) r) (each_and h (fun b hb => p b (by simp [hb])) t)
theorem eqOks_all {n : Nat} : ∀ {ds : List D}, eqOks n ds = true → ∀ d ∈ ds, eqOk n d = true
  | [], _, _, h => by cases h
  | x :: xs, o, d, h => by
    rw [eqOks, Bool.and_eq_true] at o
    rcases List.mem_cons.1 h with rfl | h
    · exact o.1
    · exact eqOks_all o.2 d h
end DL


/-! DL23: a < b of tuples and lists whose first difference can be compared -/
namespace DL
open PySem L2 PyProof.Rows PySem.SeqAt
open AutoSeq1 (wpAny_loadPart')
open MeetsSeq MeetsSeq2 MeetsSeq3 SeqRoads2
/-- less at the first difference -/
def LtAtFirst (A : Around) (s : Shared) (xs ys : Array Value) (e r : Nat → Bool) : Prop :=
  ∀ j (h1 : j < xs.size) (h2 : j < ys.size), (∀ i, i < j → e i = true) → e j = false → RcLt A s xs[j] ys[j] (r j)
def EqAtAll (A : Around) (s : Shared) (xs ys : Array Value) (e : Nat → Bool) : Prop := ∀ j (h1 : j < xs.size) (h2 : j < ys.size), EqAt A s xs[j] ys[j] (e j)
abbrev ltFirst (xs ys : Array Value) (e r : Nat → Bool) (k : Nat) : Bool := firstLt e r (decide (xs.size < ys.size)) ((List.range (min xs.size ys.size)).drop k)
theorem drop_range {n i : Nat} (h : i < n) : (List.range n).drop i = i :: (List.range n).drop (i + 1) := by
  rw [List.drop_eq_getElem_cons (by simpa using h)]
  simp
theorem tup_ltF (p q : Addr) (xs ys : Array Value) (n m : Nat) (u v : Option Addr) (t z : Array (Option Value)) (e r : Nat → Bool) :
    Meets (Builtin.«tuple.__lt__» ⟨[.ref p, .ref q], []⟩) (fun A R s =>
      s.heap.get? p = some { cls := .type "tuple", dict := u, data := .seq xs n, slots := t } ∧
      s.heap.get? q = some { cls := .type "tuple", dict := v, data := .seq ys m, slots := z } ∧
      EqAtAll A.in1 s xs ys e ∧ LtAtFirst A.in1 s xs ys e r ∧ R (.ok (.ret (.bool (ltFirst xs ys e r 0)))) s) :=
  .of_wp fun prog w A R s hyp => by
    obtain ⟨hp, gens, dr, tk, os⟩ := s
    obtain ⟨op, oq, eqs, lts, fin⟩ := hyp
    have sub := AutoSeq1.sub_tuple_tuple
    have len : (xs.toList.zip ys.toList).length = min xs.size ys.size := by simp
    wp_walk using wpAny_loadPart' op, wpAny_loadPart' oq, wpAny_forIn_list _ (fun rest b s' => b.1 = none ∧ s' = ⟨hp, gens, dr, tk, os⟩ ∧ ∃ i, (∀ k, k < i → e k = true) ∧ rest = (xs.toList.zip ys.toList).drop i ∧
      R (.ok (.ret (.bool (ltFirst xs ys e r i)))) ⟨hp, gens, dr, tk, os⟩) _
    case turn =>
      rintro ⟨a, b⟩ rest acc s' ⟨hacc, rfl, i, pre, hrest, hR⟩
      have lt : i < (xs.toList.zip ys.toList).length := by
        rcases Nat.lt_or_ge i (xs.toList.zip ys.toList).length with h' | h'
        · exact h'
        · rw [List.drop_of_length_le h'] at hrest
          cases hrest
      have lm : i < min xs.size ys.size := len ▸ lt
      have l1 : i < xs.size := Nat.lt_of_lt_of_le lm (Nat.min_le_left _ _)
      have l2 : i < ys.size := Nat.lt_of_lt_of_le lm (Nat.min_le_right _ _)
      rw [List.drop_eq_getElem_cons lt] at hrest
      injection hrest with e1 e2
      obtain rfl : a = xs[i] := by simpa using congrArg Prod.fst e1
      obtain rfl : b = ys[i] := by simpa using congrArg Prod.snd e1
      unfold ltFirst at hR
      rw [drop_range lm] at hR
      refine wpAny_bind (eqs i l1 l2 prog w _ _ ?_)
      cases ei : e i with
      | true =>
        rw [firstLt_yes ei] at hR
        wp_walk
        refine ⟨rfl, rfl, i + 1, fun k hk => ?_, e2, hR⟩
        by_cases c : k = i
        · rw [c]; exact ei
        · exact pre k (by omega)
      | false =>
        rw [firstLt_no ei] at hR
        rw [if_pos (show (!false) = true from rfl)]
        refine wpAny_bind (wpAny_rule ?_)
        refine wpAny_bind (lts i l1 l2 pre ei prog w _ _ ?_)
        wp_walk
        exact ⟨_, rfl, hR⟩
    case fin =>
      rintro ⟨b1, b2⟩ s' ⟨hacc, rfl, i, pre, hrest, hR⟩
      simp only at hacc
      subst hacc
      have ge : min xs.size ys.size ≤ i := by
        rcases Nat.lt_or_ge i (xs.toList.zip ys.toList).length with h' | h'
        · rw [List.drop_eq_getElem_cons h'] at hrest
          cases hrest
        · exact len ▸ h'
      unfold ltFirst at hR
      rw [List.drop_of_length_le (by simpa using ge)] at hR
      wp_walk
      exact ⟨_, rfl, by simpa [Builtin.Tuple.tupleCompareSizes, firstLt] using hR⟩
    case h =>
      exact ⟨rfl, rfl, 0, fun k hk => absurd hk (Nat.not_lt_zero k), rfl, fin⟩
theorem lst_ltLoop (p q : Addr) (xs ys : Array Value) (n m : Nat) (u v : Option Addr) (t z : Array (Option Value)) (e r : Nat → Bool) (k : Nat) :
    ∀ i : Nat, min xs.size ys.size - i = k → Meets (Builtin.«list.__eq__.loop» ⟨[.ref p, .ref q, rawInt i, rawInt 0], []⟩) (fun A R s =>
      s.heap.get? p = some { cls := .type "list", dict := u, data := .seq xs n, slots := t } ∧
      s.heap.get? q = some { cls := .type "list", dict := v, data := .seq ys m, slots := z } ∧
      (∀ k, k < i → e k = true) ∧ EqAtAll A.in1 s xs ys e ∧ LtAtFirst A.in1 s xs ys e r ∧ R (.ok (.ret (.bool (ltFirst xs ys e r i)))) s) := by
  induction k with
  | zero =>
    intro i hk prog w A R s hyp
    obtain ⟨hp, gens, dr, tk, os⟩ := s
    obtain ⟨op, oq, pre, eqs, lts, fin⟩ := hyp
    unfold ltFirst at fin
    rw [List.drop_of_length_le (by simp; omega)] at fin
    wp_walk using wpAny_loadPart' op, wpAny_loadPart' oq
    by_cases c : xs.size ≤ i
    · rw [show xs[((i : Nat) : Int).toNat]? = none by simp; omega]
      wp_walk using wpAny_loadPart' op, wpAny_loadPart' oq
      exact fin
    · have lt : i < xs.size := by omega
      rw [show xs[((i : Nat) : Int).toNat]? = some xs[i] by simp [lt], show ys[((i : Nat) : Int).toNat]? = none by simp; omega]
      wp_walk using wpAny_loadPart' op, wpAny_loadPart' oq
      exact fin
  | succ k ih =>
    intro i hk prog w A R s hyp
    obtain ⟨hp, gens, dr, tk, os⟩ := s
    obtain ⟨op, oq, pre, eqs, lts, fin⟩ := hyp
    wp_walk using wpAny_loadPart' op, wpAny_loadPart' oq
    have lm : i < min xs.size ys.size := by omega
    have l1 : i < xs.size := Nat.lt_of_lt_of_le lm (Nat.min_le_left _ _)
    have l2 : i < ys.size := Nat.lt_of_lt_of_le lm (Nat.min_le_right _ _)
    have g1 : xs[((i : Nat) : Int).toNat]? = some xs[i] := by simp [l1]
    have g2 : ys[((i : Nat) : Int).toNat]? = some ys[i] := by simp [l2]
    have up : ((i : Int) + 1) = ((i + 1 : Nat) : Int) := by push_cast; rfl
    unfold ltFirst at fin
    rw [drop_range lm] at fin
    rw [g1, g2]
    refine wpAny_bind (eqs i l1 l2 prog w _ _ ?_)
    cases ei : e i with
    | true =>
      rw [firstLt_yes ei] at fin
      wp_walk
      rw [up]
      refine ⟨plainId_quiet plain_eq_loop _, codeAny_builtin entry_eq_loop ?_⟩
      rw [Around.under_plainId plain_eq_loop _]
      refine ih (i + 1) (by omega) prog w A R _ ⟨op, oq, fun k hk => ?_, eqs, lts, fin⟩
      by_cases c : k = i
      · rw [c]; exact ei
      · exact pre k (by omega)
    | false =>
      rw [firstLt_no ei] at fin
      wp_walk using wpAny_loadPart' op, wpAny_loadPart' oq
      rw [g1, g2]
      refine wpAny_bind (lts i l1 l2 pre ei prog w _ _ ?_)
      wp_walk
      exact fin
theorem lst_ltF (p q : Addr) (xs ys : Array Value) (n m : Nat) (u v : Option Addr) (t z : Array (Option Value)) (e r : Nat → Bool) :
    Meets (Builtin.«list.__lt__» ⟨[.ref p, .ref q], []⟩) (fun A R s =>
      s.heap.get? p = some { cls := .type "list", dict := u, data := .seq xs n, slots := t } ∧
      s.heap.get? q = some { cls := .type "list", dict := v, data := .seq ys m, slots := z } ∧
      EqAtAll A.in1 s xs ys e ∧ LtAtFirst A.in1 s xs ys e r ∧ R (.ok (.ret (.bool (ltFirst xs ys e r 0)))) s) := by
  intro prog w A R s hyp
  obtain ⟨hp, gens, dr, tk, os⟩ := s
  obtain ⟨op, oq, eqs, lts, fin⟩ := hyp
  have sub := AutoSeq1.sub_list_list
  wp_walk using wpAny_loadPart' op, wpAny_loadPart' oq
  refine ⟨plainId_quiet plain_eq_loop _, codeAny_builtin entry_eq_loop ?_⟩
  rw [Around.under_plainId plain_eq_loop _]
  exact lst_ltLoop p q xs ys n m u v t z e r _ 0 rfl prog w A R _ ⟨op, oq, fun k hk => absurd hk (Nat.not_lt_zero k), eqs, lts, fin⟩
section
variable {A : Around} {s : Shared}
theorem rc_tup {l b : Addr} {xs ys : Array Value} {e r : Nat → Bool} (hl : s.heap.IsTuple l xs) (hb : s.heap.IsTuple b ys) (hu : A.units < cLine) (he : EqAtAll A.in1 s xs ys e) (hr : LtAtFirst A.in1 s xs ys e r) : RcLt A s (.ref l) (.ref b) (ltFirst xs ys e r 0) := fun prog w E Q h => by
  obtain ⟨⟨c1, d1, a1, s1⟩, o1, k1, n1, g1⟩ := id hl
  obtain ⟨⟨c2, d2, a2, s2⟩, o2, k2, n2, g2⟩ := id hb
  simp only at k1 g1 k2 g2
  subst k1 g1 k2 g2
  exact richCompare_meets_room (op := .Lt) ⟨_, o1, rfl⟩ ⟨_, o2, rfl⟩ F.slot_tuple_lt F.entry_tuple_lt (F.args_tuple_lt_2 _ _) (tup_ltF l b xs ys n1 n2 d1 d2 s1 s2 e r) ⟨o1, o2, he, hr, (fun x => nomatch x), h⟩ hu
theorem rc_lst {l b : Addr} {xs ys : Array Value} {e r : Nat → Bool} (hl : s.heap.IsList l xs) (hb : s.heap.IsList b ys) (hu : A.units < cLine) (he : EqAtAll A.in1 s xs ys e) (hr : LtAtFirst A.in1 s xs ys e r) : RcLt A s (.ref l) (.ref b) (ltFirst xs ys e r 0) := fun prog w E Q h => by
  obtain ⟨⟨c1, d1, a1, s1⟩, o1, k1, n1, g1⟩ := id hl
  obtain ⟨⟨c2, d2, a2, s2⟩, o2, k2, n2, g2⟩ := id hb
  simp only at k1 g1 k2 g2
  subst k1 g1 k2 g2
  exact richCompare_meets_room (op := .Lt) ⟨_, o1, rfl⟩ ⟨_, o2, rfl⟩ F.slot_list_lt F.entry_list_lt (F.args_list_lt_2 _ _) (lst_ltF l b xs ys n1 n2 d1 d2 s1 s2 e r) ⟨o1, o2, he, hr, (fun x => nomatch x), h⟩ hu
/-- the slot's own call, as sorting makes it -/
theorem call_ltL {prog : Program} {w : World} {E : Value → Shared → Prop} {Q : Value → Shared → Prop} {l b : Addr} {xs ys : Array Value} {e r : Nat → Bool} (hl : s.heap.IsList l xs) (hb : s.heap.IsList b ys) (he : EqAtAll A.in1 s xs ys e) (hr : LtAtFirst A.in1 s xs ys e r)
    (h : Q (.bool (ltFirst xs ys e r 0)) s) : wpAny (model prog w) A (call (.builtin "list.__lt__") [.ref l, .ref b]) Q E s := by
  obtain ⟨⟨c1, d1, a1, s1⟩, o1, k1, n1, g1⟩ := id hl
  obtain ⟨⟨c2, d2, a2, s2⟩, o2, k2, n2, g2⟩ := id hb
  simp only at k1 g1 k2 g2
  subst k1 g1 k2 g2
  exact call_meets F.slot_list_lt ⟨_, o1, rfl⟩ F.entry_list_lt (F.args_list_lt_2 _ _) (lst_ltF l b xs ys n1 n2 d1 d2 s1 s2 e r) ⟨o1, o2, he, hr, h⟩
theorem call_ltT {prog : Program} {w : World} {E : Value → Shared → Prop} {Q : Value → Shared → Prop} {l b : Addr} {xs ys : Array Value} {e r : Nat → Bool} (hl : s.heap.IsTuple l xs) (hb : s.heap.IsTuple b ys) (he : EqAtAll A.in1 s xs ys e) (hr : LtAtFirst A.in1 s xs ys e r)
    (h : Q (.bool (ltFirst xs ys e r 0)) s) : wpAny (model prog w) A (call (.builtin "tuple.__lt__") [.ref l, .ref b]) Q E s := by
  obtain ⟨⟨c1, d1, a1, s1⟩, o1, k1, n1, g1⟩ := id hl
  obtain ⟨⟨c2, d2, a2, s2⟩, o2, k2, n2, g2⟩ := id hb
  simp only at k1 g1 k2 g2
  subst k1 g1 k2 g2
  exact call_meets F.slot_tuple_lt ⟨_, o1, rfl⟩ F.entry_tuple_lt (F.args_tuple_lt_2 _ _) (tup_ltF l b xs ys n1 n2 d1 d2 s1 s2 e r) ⟨o1, o2, he, hr, h⟩
end
end DL


/-! DL24: data that can be compared place by place up to the first difference -/
namespace DL
open PySem L2 PyProof.Rows PySem.SeqAt
open PySem.W (EachIs SortsAt keyToks keyToksAll KatTups)
mutual
def cmpC : D → D → Bool
  | .bl _, .bl _ => true
  | .int _, .int _ => true
  | .str _, .str _ => true
  | .tup xs, .tup ys => cmpCs xs ys
  | .lst xs, .lst ys => cmpCs xs ys
  | _, _ => false
def cmpCs : List D → List D → Bool
  | x :: xs, y :: ys => if eqD x y then cmpCs xs ys else cmpC x y
  | [], _ => true
  | _ :: _, [] => true
end
abbrev tk (d : D) : List (Int ⊕ List Nat) := keyToks (pd d)
abbrev tks (ds : List D) : List (Int ⊕ List Nat) := keyToksAll (pds ds)
/-- a < b -/
def ltD (d e : D) : Bool := lexLt itemOrd (tk d) (tk e)
def ltDs (ds es : List D) : Bool := lexLt itemOrd (tks ds) (tks es)
theorem tks_cons (d : D) (ds : List D) : tks (d :: ds) = Sum.inl 1 :: (tk d ++ tks ds) := by
  show keyToksAll (pds (d :: ds)) = _
  rw [pds, keyToksAll]
theorem tks_nil : tks [] = [Sum.inl 0] := by
  show keyToksAll (pds []) = _
  rw [pds, keyToksAll]
mutual
theorem tk_eq : ∀ (d e : D), eqD d e = true → tk d = tk e
  | .non, e, h => by cases e <;> simp_all [eqD, tk, pd]
  | .bl a, e, h => by cases e <;> simp_all [eqD, tk, pd, keyToks]
  | .int a, e, h => by cases e <;> simp_all [eqD, tk, pd, keyToks]
  | .str a, e, h => by cases e <;> simp_all [eqD, tk, pd, keyToks]
  | .tup xs, e, h => by
    cases e with
    | tup ys => exact (by simpa only [tk, pd, keyToks] using tks_eq xs ys (by simpa [eqD] using h))
    | _ => simp [eqD] at h
  | .lst xs, e, h => by
    cases e with
    | lst ys => exact (by simpa only [tk, pd, keyToks] using tks_eq xs ys (by simpa [eqD] using h))
    | _ => simp [eqD] at h
  | .ref _, e, h => by cases e <;> simp [eqD] at h
  | .rol _, e, h => by cases e <;> simp [eqD] at h
  | .dcu _ _, e, h => by cases e <;> simp [eqD] at h
  | .dct _ _, e, h => by cases e <;> simp [eqD] at h
theorem tks_eq : ∀ (ds es : List D), eqDs ds es = true → tks ds = tks es
  | [], [], _ => rfl
  | [], _ :: _, h => by simp [eqDs] at h
  | _ :: _, [], h => by simp [eqDs] at h
  | x :: xs, y :: ys, h => by
    rw [eqDs, Bool.and_eq_true] at h
    rw [tks_cons, tks_cons, tk_eq x y h.1, tks_eq xs ys h.2]
end
mutual
theorem tk_ne : ∀ (d e : D), cmpC d e = true → eqD d e = false → ∀ l m, lexLt itemOrd (tk d ++ l) (tk e ++ m) = ltD d e
  | .bl a, e, h, h' => by
    cases e with
    | bl b =>
      intro l m
      refine PySem.W.lex_atom (fun q => ?_) l m
      have q' := Sum.inl.inj q
      revert h' q'
      cases a <;> cases b <;> simp [eqD]
    | _ => simp [cmpC] at h
  | .int a, e, h, h' => by
    cases e with
    | int b =>
      intro l m
      refine PySem.W.lex_atom (fun q => ?_) l m
      have q' := Sum.inl.inj q
      simp [eqD] at h'
      exact h' q'
    | _ => simp [cmpC] at h
  | .str a, e, h, h' => by
    cases e with
    | str b =>
      intro l m
      refine PySem.W.lex_atom (fun q => ?_) l m
      have q' := PySem.W.str_of_cps (Sum.inr.inj q)
      simp [eqD] at h'
      exact h' q'
    | _ => simp [cmpC] at h
  | .tup xs, e, h, h' => by
    cases e with
    | tup ys =>
      have := tks_ne xs ys (by simpa [cmpC] using h) (by simpa [eqD] using h')
      intro l m
      simpa only [ltD, tk, pd, keyToks, ltDs] using this l m
    | _ => simp [cmpC] at h
  | .lst xs, e, h, h' => by
    cases e with
    | lst ys =>
      have := tks_ne xs ys (by simpa [cmpC] using h) (by simpa [eqD] using h')
      intro l m
      simpa only [ltD, tk, pd, keyToks, ltDs] using this l m
    | _ => simp [cmpC] at h
  | .non, e, h, _ => by cases e <;> simp [cmpC] at h
  | .ref _, e, h, _ => by cases e <;> simp [cmpC] at h
  | .rol _, e, h, _ => by cases e <;> simp [cmpC] at h
  | .dcu _ _, e, h, _ => by cases e <;> simp [cmpC] at h
  | .dct _ _, e, h, _ => by cases e <;> simp [cmpC] at h
theorem tks_ne : ∀ (ds es : List D), cmpCs ds es = true → eqDs ds es = false → ∀ l m, lexLt itemOrd (tks ds ++ l) (tks es ++ m) = ltDs ds es
  | [], [], _, h => by simp [eqDs] at h
  | [], y :: ys, _, _ => fun l m => by
    unfold ltDs
    rw [tks_cons, tks_nil, List.cons_append, List.cons_append]
    exact (PySem.W.lex_atom (by simp) _ _).trans (PySem.W.lex_atom (by simp) _ _).symm
  | x :: xs, [], _, _ => fun l m => by
    unfold ltDs
    rw [tks_cons, tks_nil, List.cons_append, List.cons_append]
    exact (PySem.W.lex_atom (by simp) _ _).trans (PySem.W.lex_atom (by simp) _ _).symm
  | x :: xs, y :: ys, h, h' => fun l m => by
    rw [cmpCs] at h
    rw [eqDs] at h'
    unfold ltDs
    rw [tks_cons, tks_cons, List.cons_append, List.cons_append, List.append_assoc, List.append_assoc]
    refine (lex_self (O := itemOrd) _ _ _).trans (Eq.trans ?_ (lex_self (O := itemOrd) _ _ _).symm)
    cases hx : eqD x y with
    | true =>
      rw [hx, if_pos rfl] at h
      rw [hx, Bool.true_and] at h'
      rw [tk_eq x y hx]
      exact (PySem.W.lex_pre _ _ _).trans ((tks_ne xs ys h h' l m).trans (PySem.W.lex_pre _ _ _).symm)
    | false =>
      rw [hx, if_neg Bool.false_ne_true] at h
      exact (tk_ne x y h hx _ _).trans (tk_ne x y h hx _ _).symm
end
theorem ltDs_yes {x y : D} {xs ys : List D} (h : eqD x y = true) : ltDs (x :: xs) (y :: ys) = ltDs xs ys := by
  unfold ltDs
  rw [tks_cons, tks_cons, tk_eq x y h]
  exact (lex_self (O := itemOrd) _ _ _).trans (PySem.W.lex_pre _ _ _)
theorem ltDs_no {x y : D} {xs ys : List D} (h : cmpC x y = true) (h' : eqD x y = false) : ltDs (x :: xs) (y :: ys) = ltD x y := by
  unfold ltDs
  rw [tks_cons, tks_cons]
  exact (lex_self (O := itemOrd) _ _ _).trans (tk_ne x y h h' _ _)
theorem ltDs_nil : ltDs [] [] = false := by
  unfold ltDs
  exact lex_irrefl _
theorem ltDs_nc {y : D} {ys : List D} : ltDs [] (y :: ys) = true := by
  unfold ltDs
  rw [tks_cons, tks_nil, lex_diff (O := itemOrd) (by simp)]
  simp [itemLt]
theorem ltDs_cn {y : D} {ys : List D} : ltDs (y :: ys) [] = false := by
  unfold ltDs
  rw [tks_cons, tks_nil, lex_diff (O := itemOrd) (by simp)]
  simp [itemLt]
theorem ltD_tup {xs ys : List D} : ltD (.tup xs) (.tup ys) = ltDs xs ys := by simp only [ltD, ltDs, tk, tks, pd, keyToks]
theorem ltD_lst {xs ys : List D} : ltD (.lst xs) (.lst ys) = ltDs xs ys := by simp only [ltD, ltDs, tk, tks, pd, keyToks]
theorem ltD_int {i j : Int} : ltD (.int i) (.int j) = decide (i < j) := PySem.W.dataLt_int i j
theorem ltD_str {i j : Str} : ltD (.str i) (.str j) = decide (i.cps.toList < j.cps.toList) := PySem.W.dataLt_str i j
/-- the first place that differs -/
theorem first_toks : ∀ (ds es : List D), cmpCs ds es = true → firstLt (fun j => eqD (ds.getD j .non) (es.getD j .non)) (fun j => ltD (ds.getD j .non) (es.getD j .non)) (decide (ds.length < es.length)) (List.range (min ds.length es.length)) = ltDs ds es
  | [], [], _ => by rw [ltDs_nil]; simp [firstLt]
  | [], y :: ys, _ => by rw [ltDs_nc]; simp [firstLt]
  | x :: xs, [], _ => by rw [ltDs_cn]; simp [firstLt]
  | x :: xs, y :: ys, h => by
    rw [cmpCs] at h
    have em : min (x :: xs).length (y :: ys).length = min xs.length ys.length + 1 := by
      simp only [List.length_cons]
      omega
    have ed : decide ((x :: xs).length < (y :: ys).length) = decide (xs.length < ys.length) := by simp
    rw [em, ed, List.range_succ_eq_map]
    cases hx : eqD x y with
    | true =>
      rw [hx, if_pos rfl] at h
      rw [firstLt_yes (show eqD ((x :: xs).getD 0 .non) ((y :: ys).getD 0 .non) = true from hx), PySem.W.firstLt_map, ltDs_yes hx, ← first_toks xs ys h]
      rfl
    | false =>
      rw [hx, if_neg Bool.false_ne_true] at h
      rw [firstLt_no (show eqD ((x :: xs).getD 0 .non) ((y :: ys).getD 0 .non) = false from hx), ltDs_no h hx]
      rfl
theorem cmpCs_at : ∀ {ds es : List D} {j : Nat}, cmpCs ds es = true → j < ds.length → j < es.length → (∀ i, i < j → eqD (ds.getD i .non) (es.getD i .non) = true) → eqD (ds.getD j .non) (es.getD j .non) = false → cmpC (ds.getD j .non) (es.getD j .non) = true
  | x :: xs, y :: ys, 0, h, _, _, _, h' => by
    have h'' : eqD x y = false := h'
    rw [cmpCs, h'', if_neg Bool.false_ne_true] at h
    exact h
  | x :: xs, y :: ys, j + 1, h, h1, h2, hp, h' => by
    have h0 : eqD x y = true := hp 0 (Nat.succ_pos j)
    rw [cmpCs, h0, if_pos rfl] at h
    exact cmpCs_at (ds := xs) (es := ys) (j := j) h (Nat.lt_of_succ_lt_succ h1) (Nat.lt_of_succ_lt_succ h2) (fun i hi => hp (i + 1) (Nat.succ_lt_succ hi)) h'
  | [], _, _, _, h1, _, _, _ => absurd h1 (Nat.not_lt_zero _)
  | _ :: _, [], _, _, _, h2, _, _ => absurd h2 (Nat.not_lt_zero _)
theorem getD_mem {ds : List D} {j : Nat} (h : j < ds.length) : ds[j]? = some (ds.getD j .non) := by rw [List.getD_eq_getElem?_getD, List.getElem?_eq_getElem h]; rfl
section
variable {X : Cx} {pins : List (Addr × Obj)} {σ : L2.St} {H : Hp} {s : Shared} {W : Wd} {S : Sh}
theorem eqs_at (I : Inv X pins σ H s) (B : Base X.KW W S H) {n : Nat} {ds es : List D} {A : Around} {xs ys : List V} {vs us : List Value} (od : eqOks n ds = true) (oe : eqOks n es = true) (hu : A.units + n < cLine) (rd : Reps W ds xs) (re : Reps W es ys) (rx : Vals xs vs) (ry : Vals ys us) :
    EqAtAll A s vs.toArray us.toArray (fun j => eqD (ds.getD j .non) (es.getD j .non)) := fun j h1 h2 => by
  have l1 := rd.length
  have l2 := re.length
  have l3 := rx.length
  have l4 := ry.length
  have h1' : j < vs.length := by simpa using h1
  have h2' : j < us.length := by simpa using h2
  obtain ⟨x1, p1, p2⟩ := rd.vals rx h1'
  obtain ⟨y1, p3, p4⟩ := re.vals ry h2'
  have := (eq_rc I B n _ _ A x1 y1 vs[j] us[j] (eqOks_get (i := j) od (getD_mem (by omega))) (eqOks_get (i := j) oe (getD_mem (by omega))) hu p1 p3 p2 p4).1
  simpa using this
theorem rc_lt (I : Inv X pins σ H s) (B : Base X.KW W S H) : ∀ (n : Nat) (d e : D) (A : Around) (x y : V) (v u : Value), eqOk n d = true → eqOk n e = true → cmpC d e = true → A.units + n < cLine → Rep W d x → Rep W e y → RelV x v → RelV y u → RcLt A s v u (ltD d e) := by
  intro n
  have scal : ∀ (d e : D) (A : Around) (x y : V) (v u : Value), isScal d = true → cmpC d e = true → Rep W d x → Rep W e y → RelV x v → RelV y u → RcLt A s v u (ltD d e) := by
    intro d e A x y v u hs hc rd re rx ry
    cases d with
    | bl a =>
      cases e with
      | bl b =>
        cases rd
        cases re
        cases rx
        cases ry
        intro prog w E Q hq
        exact PyProof.Rows.lt_bool (by rw [← PySem.W.dataLt_bool]; exact hq)
      | _ => simp [cmpC] at hc
    | int a =>
      cases e with
      | int b =>
        cases rd
        cases re
        obtain ⟨t, rfl⟩ := rx
        obtain ⟨t', rfl⟩ := ry
        intro prog w E Q hq
        rw [ltD_int] at hq
        exact PySem.P.lt_int hq
      | _ => simp [cmpC] at hc
    | str a =>
      cases e with
      | str b =>
        cases rd
        cases re
        obtain ⟨t, rfl⟩ := rx
        obtain ⟨t', rfl⟩ := ry
        intro prog w E Q hq
        rw [ltD_str] at hq
        exact PySem.P.lt_str hq
      | _ => simp [cmpC] at hc
    | non => cases e <;> simp [cmpC] at hc
    | _ => cases hs
  induction n with
  | zero =>
    intro d e A x y v u od oe hc hu rd re rx ry
    refine scal d e A x y v u ?_ hc rd re rx ry
    cases d <;> first | rfl | (simp [eqOk] at od; done)
  | succ n ih =>
    intro d e A x y v u od oe hc hu rd re rx ry
    have hu0 : A.units < cLine := by omega
    have hu1 : A.in1.units + n < cLine := by rw [in1_units]; omega
    have lts : ∀ {ds es : List D} {xs ys : List V} {vs us : List Value}, eqOks n ds = true → eqOks n es = true → cmpCs ds es = true → Reps W ds xs → Reps W es ys → Vals xs vs → Vals ys us → LtAtFirst A.in1 s vs.toArray us.toArray (fun j => eqD (ds.getD j .non) (es.getD j .non)) (fun j => ltD (ds.getD j .non) (es.getD j .non)) := by
      intro ds es xs ys vs us od oe hc rd re rx ry j h1 h2 pre ej
      have l1 := rd.length
      have l2 := re.length
      have l3 := rx.length
      have l4 := ry.length
      have h1' : j < vs.length := by simpa using h1
      have h2' : j < us.length := by simpa using h2
      obtain ⟨x1, p1, p2⟩ := rd.vals rx h1'
      obtain ⟨y1, p3, p4⟩ := re.vals ry h2'
      have := ih _ _ A.in1 x1 y1 vs[j] us[j] (eqOks_get (i := j) od (getD_mem (by omega))) (eqOks_get (i := j) oe (getD_mem (by omega))) (cmpCs_at hc (by omega) (by omega) pre ej) hu1 p1 p3 p2 p4
      simpa using this
    cases d with
    | tup ds =>
      cases e with
      | tup es =>
        obtain ⟨a, vs, us, rfl, rfl, q, r1, pl, t⟩ := B.isTup I rd rx
        obtain ⟨b, vs', us', rfl, rfl, q', r1', pl', t'⟩ := B.isTup I re ry
        have od' : eqOks n ds = true := by simpa [eqOk] using od
        have oe' : eqOks n es = true := by simpa [eqOk] using oe
        have hc' : cmpCs ds es = true := by simpa [cmpC] using hc
        have z := rc_tup pl pl' hu0 (eqs_at I B od' oe' hu1 q q' r1 r1') (lts od' oe' hc' q q' r1 r1')
        unfold ltFirst at z
        rw [List.drop_zero, List.size_toArray, List.size_toArray, ← r1.length, ← r1'.length, q.length, q'.length, first_toks ds es hc'] at z
        rw [ltD_tup]
        exact z
      | _ => simp [cmpC] at hc
    | lst ds =>
      cases e with
      | lst es =>
        obtain ⟨a, vs, us, rfl, rfl, q, r1, pl, t⟩ := B.isLst I rd rx
        obtain ⟨b, vs', us', rfl, rfl, q', r1', pl', t'⟩ := B.isLst I re ry
        have od' : eqOks n ds = true := by simpa [eqOk] using od
        have oe' : eqOks n es = true := by simpa [eqOk] using oe
        have hc' : cmpCs ds es = true := by simpa [cmpC] using hc
        have z := rc_lst pl pl' hu0 (eqs_at I B od' oe' hu1 q q' r1 r1') (lts od' oe' hc' q q' r1 r1')
        unfold ltFirst at z
        rw [List.drop_zero, List.size_toArray, List.size_toArray, ← r1.length, ← r1'.length, q.length, q'.length, first_toks ds es hc'] at z
        rw [ltD_lst]
        exact z
      | _ => simp [cmpC] at hc
    | bl a => exact scal _ e A x y v u rfl hc rd re rx ry
    | int a => exact scal _ e A x y v u rfl hc rd re rx ry
    | str a => exact scal _ e A x y v u rfl hc rd re rx ry
    | non => cases e <;> simp [cmpC] at hc
    | ref _ => cases e <;> simp [cmpC] at hc
    | rol _ => cases e <;> simp [cmpC] at hc
    | dcu _ _ => cases e <;> simp [cmpC] at hc
    | dct _ _ => cases e <;> simp [cmpC] at hc
end
end DL


/-! DL25: what may be sorted; sorted(xs) -/
namespace DL
open PySem L2 PyProof.Rows PySem.SeqAt
open PySem.W (EachIs SortsAt keyToks keyToksAll KatTups KatLex dataLe sortVals copyHeap)
def tyTag : D → Nat
  | .non => 0 | .bl _ => 1 | .int _ => 2 | .str _ => 3 | .lst _ => 4 | .tup _ => 5 | _ => 6
def hdTag : D → Nat
  | .tup (d :: _) => tyTag d
  | _ => 7
/-- keys that a sort may have -/
def keyOk (ks : List D) : Bool := eqOks 60 ks && ks.all (fun d => ks.all fun e => cmpC d e) && ((ks.all isTup1 && ks.all fun d => ks.all fun e => hdTag d == hdTag e) || ks.all notTupN || decide (ks.length ≤ 1)) && decide (ks.length ≤ sizeLine)
structure KeyOk (ks : List D) : Prop where
  eq : eqOks 60 ks = true
  cmp : ∀ d ∈ ks, ∀ e ∈ ks, cmpC d e = true
  sh : ((∀ d ∈ ks, isTup1 d = true) ∧ ∀ d ∈ ks, ∀ e ∈ ks, hdTag d = hdTag e) ∨ (∀ d ∈ ks, notTupN d = true) ∨ ks.length ≤ 1
  len : ks.length ≤ sizeLine
theorem key_parts {ks : List D} (h : keyOk ks = true) : KeyOk ks := by
  unfold keyOk at h
  simp only [Bool.and_eq_true, Bool.or_eq_true, decide_eq_true_eq, List.all_eq_true, beq_iff_eq] at h
  obtain ⟨⟨⟨h1, h2⟩, h3⟩, h4⟩ := h
  refine ⟨h1, h2, ?_, h4⟩
  rcases h3 with (h3 | h3) | h3
  · exact .inl h3
  · exact .inr (.inl h3)
  · exact .inr (.inr h3)
theorem keyOk_of {ks : List D} (h : KeyOk ks) : keyOk ks = true := by
  unfold keyOk
  simp only [Bool.and_eq_true, Bool.or_eq_true, decide_eq_true_eq, List.all_eq_true, beq_iff_eq]
  refine ⟨⟨⟨h.eq, h.cmp⟩, ?_⟩, h.len⟩
  rcases h.sh with h3 | h3 | h3
  · exact .inl (.inl h3)
  · exact .inl (.inr h3)
  · exact .inr h3
noncomputable def kindD (W : Wd) (ds : List D) : PyProof.Rows.KeyKind where
  toKeyOrd := listOrd itemOrd
  keyOf v := open Classical in if q : ∃ d, d ∈ ds ∧ ∃ x, RelV x v ∧ Rep W d x then some (tk q.choose) else none
  dflt := ([] : List (Int ⊕ List Nat))
theorem relv_inj {x y : V} {v : Value} (h : RelV x v) (h' : RelV y v) : x = y := by
  cases x <;> cases y <;> simp only [L2.RelV] at h h' <;> first
    | rfl
    | (obtain ⟨t, rfl⟩ := h; obtain ⟨t', e⟩ := h'; cases e; rfl)
    | (subst h; cases h'; rfl)
    | (obtain ⟨t, rfl⟩ := h; cases h'; done)
    | (subst h; obtain ⟨t', e⟩ := h'; cases e; done)
    | (subst h; cases h'; done)
    | (obtain ⟨t, rfl⟩ := h; obtain ⟨t', e⟩ := h'; cases e; done)
theorem kindD_some {W : Wd} {ds : List D} (ok : eqOks 60 ds = true) {d : D} {x : V} {v : Value} (hd : d ∈ ds) (r : RelV x v) (h : Rep W d x) : (kindD W ds).keyOf v = some (tk d) := by
  have q : ∃ d, d ∈ ds ∧ ∃ x, RelV x v ∧ Rep W d x := ⟨d, hd, x, r, h⟩
  have e : (kindD W ds).keyOf v = some (tk q.choose) := by
    show (open Classical in if q : ∃ d, d ∈ ds ∧ ∃ x, RelV x v ∧ Rep W d x then some (tk q.choose) else none) = _
    rw [dif_pos q]
  obtain ⟨h1, x', r', h'⟩ := q.choose_spec
  obtain rfl := relv_inj r r'
  rw [e, Rep.inj 60 d _ (eqOks_all ok d hd) (eqOks_all ok _ h1) h h']
theorem kindD_inv {W : Wd} {ds : List D} {v : Value} {k : List (Int ⊕ List Nat)} (e : (kindD W ds).keyOf v = some k) : ∃ d x, d ∈ ds ∧ RelV x v ∧ Rep W d x ∧ k = tk d := by
  by_cases q : ∃ d, d ∈ ds ∧ ∃ x, RelV x v ∧ Rep W d x
  · have e' : (kindD W ds).keyOf v = some (tk q.choose) := by
      show (open Classical in if q : ∃ d, d ∈ ds ∧ ∃ x, RelV x v ∧ Rep W d x then some (tk q.choose) else none) = _
      rw [dif_pos q]
    obtain ⟨h1, x', r', h'⟩ := q.choose_spec
    rw [e'] at e
    exact ⟨_, x', h1, r', h', (Option.some.inj e).symm⟩
  · have e' : (kindD W ds).keyOf v = none := by
      show (open Classical in if q : ∃ d, d ∈ ds ∧ ∃ x, RelV x v ∧ Rep W d x then some (tk q.choose) else none) = _
      rw [dif_neg q]
      rfl
    rw [e'] at e
    cases e
theorem each_map' {α β γ : Type} {R : α → γ → Prop} (f : β → γ) : ∀ {as : List α} {bs : List β}, EachIs (fun a b => R a (f b)) as bs → EachIs R as (bs.map f)
  | _, _, .nil => .nil
  | _, _, .cons r t => .cons r (each_map' f t)
theorem ty_data {d e : D} {n : Nat} (hd : eqOk n d = true) (he : eqOk n e = true) (h : tyTag d = tyTag e) : PySem.W.dataType (pd d) = PySem.W.dataType (pd e) := by
  cases d <;> cases e <;> first | rfl | (cases h; done) | (simp [eqOk] at hd; done) | (simp [eqOk] at he; done) | (simp only [pd]; rfl)
mutual
theorem eqOk_le : ∀ (n m : Nat), n ≤ m → ∀ (d : D), eqOk n d = true → eqOk m d = true
  | _, _, _, .non, _ => by simp [eqOk]
  | _, _, _, .bl _, _ => by simp [eqOk]
  | _, _, _, .int _, _ => by simp [eqOk]
  | _, _, _, .str _, _ => by simp [eqOk]
  | 0, _, _, .tup ds, h => by simp [eqOk] at h
  | n + 1, 0, l, .tup ds, h => absurd l (by omega)
  | n + 1, m + 1, l, .tup ds, h => by
    have := eqOks_le n m (by omega) ds (by simpa [eqOk] using h)
    simpa [eqOk] using this
  | 0, _, _, .lst ds, h => by simp [eqOk] at h
  | n + 1, 0, l, .lst ds, h => absurd l (by omega)
  | n + 1, m + 1, l, .lst ds, h => by
    have := eqOks_le n m (by omega) ds (by simpa [eqOk] using h)
    simpa [eqOk] using this
  | _, _, _, .rol ds, h => by simp [eqOk] at h
  | _, _, _, .ref ds, h => by simp [eqOk] at h
  | _, _, _, .dcu ds es, h => by simp [eqOk] at h
  | _, _, _, .dct ds es, h => by simp [eqOk] at h
theorem eqOks_le : ∀ (n m : Nat), n ≤ m → ∀ (ds : List D), eqOks n ds = true → eqOks m ds = true
  | _, _, _, [], _ => by simp [eqOks]
  | n, m, l, d :: ds, h => by
    rw [eqOks, Bool.and_eq_true] at h ⊢
    exact ⟨eqOk_le n m l d h.1, eqOks_le n m l ds h.2⟩
end
theorem cmp_tag {d e : D} (h : cmpC d e = true) : tyTag d = tyTag e := by
  cases d <;> cases e <;> first | rfl | (simp [cmpC] at h; done)
section
variable {X : Cx} {pins : List (Addr × Obj)} {σ : L2.St} {H : Hp} {s : Shared} {W : Wd} {S : Sh} {A : Around}
/-- one key against another -/
theorem one_gen (I : Inv X pins σ H s) (B : Base X.KW W S H) {d e : D} {x y : V} {v u : Value} {Q : Bool → Shared → Prop} {E : Value → Shared → Prop} (od : eqOk 60 d = true) (oe : eqOk 60 e = true) (hc : cmpC d e = true) (hu : A.units + 61 < cLine) (rd : Rep W d x) (re : Rep W e y) (rx : RelV x v) (ry : RelV y u)
    (h : Q (ltD d e) s) : wpAny (model X.prog X.w) A (oneLt' false v u) Q E s := by
  rw [oneLt'_eq]
  simp only [Bool.false_eq_true, if_false]
  exact wpAny_bind (rc_lt I B 60 d e A x y v u od oe hc (by omega) rd re rx ry X.prog X.w E _ (wpAny_truthy_bool h))
theorem one_ty (I : Inv X pins σ H s) (B : Base X.KW W S H) {d e : D} {x y : V} {v u : Value} {Q : Bool → Shared → Prop} {E : Value → Shared → Prop} (od : eqOk 60 d = true) (oe : eqOk 60 e = true) (hc : cmpC d e = true) (ht : notTupN d = true) (hu : A.units + 61 < cLine) (rd : Rep W d x) (re : Rep W e y) (rx : RelV x v) (ry : RelV y u)
    (h : Q (ltD d e) s) : wpAny (model X.prog X.w) A (oneLt' true v u) Q E s := by
  cases d with
  | bl a =>
    cases e with
    | bl b =>
      cases rd
      cases re
      cases rx
      cases ry
      exact PySem.W.oneLt_bool (by rw [← PySem.W.dataLt_bool]; exact h)
    | _ => simp [cmpC] at hc
  | int a =>
    cases e with
    | int b =>
      cases rd
      cases re
      obtain ⟨t, rfl⟩ := rx
      obtain ⟨t', rfl⟩ := ry
      rw [ltD_int] at h
      exact oneLt_int h
    | _ => simp [cmpC] at hc
  | str a =>
    cases e with
    | str b =>
      cases rd
      cases re
      obtain ⟨t, rfl⟩ := rx
      obtain ⟨t', rfl⟩ := ry
      rw [ltD_str] at h
      exact oneLt_str h
    | _ => simp [cmpC] at hc
  | lst ds =>
    cases e with
    | lst es =>
      obtain ⟨a, vs, us, rfl, rfl, q, r1, pl, t⟩ := B.isLst I rd rx
      obtain ⟨b, vs', us', rfl, rfl, q', r1', pl', t'⟩ := B.isLst I re ry
      have od' : eqOks 59 ds = true := by simpa [eqOk] using od
      have oe' : eqOks 59 es = true := by simpa [eqOk] using oe
      have hc' : cmpCs ds es = true := by simpa [cmpC] using hc
      have l1 := q.length
      have l2 := q'.length
      have l3 := r1.length
      have l4 := r1'.length
      have hu1 : A.in1.units + 59 < cLine := by rw [in1_units]; omega
      rw [oneLt'_eq]
      simp only [if_true]
      refine wpAny_bind (wpAny_cRoomFor (by omega) ?_)
      obtain ⟨o1, g1, g2, g3⟩ := id pl
      refine wpAny_bind (wpAny_callSpecialIfBound?_slot (T := "list") ⟨_, g1, g2⟩ F.slot_list_lt (call_ltL pl pl' (eqs_at I B od' oe' hu1 q q' r1 r1') (r := fun j => ltD (ds.getD j .non) (es.getD j .non)) (fun j h1 h2 pre ej => ?_) ?_))
      · have h1' : j < us.length := by simpa using h1
        have h2' : j < us'.length := by simpa using h2
        obtain ⟨x1, p1, p2⟩ := q.vals r1 h1'
        obtain ⟨y1, p3, p4⟩ := q'.vals r1' h2'
        have := rc_lt I B 59 _ _ A.in1 x1 y1 us[j] us'[j] (eqOks_get (i := j) od' (getD_mem (by omega))) (eqOks_get (i := j) oe' (getD_mem (by omega))) (cmpCs_at hc' (by omega) (by omega) pre ej) hu1 p1 p3 p2 p4
        simpa using this
      · unfold ltFirst
        rw [List.drop_zero, List.size_toArray, List.size_toArray, ← l3, ← l4, l1, l2, first_toks ds es hc', ← ltD_lst]
        exact wpAny_truthy_bool h
    | _ => simp [cmpC] at hc
  | _ => cases ht
theorem kat_D (I : Inv X pins σ H s) (B : Base X.KW W S H) {b fin : Bool} {Q : Bool → Shared → Prop} (hu : A.units + 61 < cLine) : ∀ (ds es : List D) (i : Nat) (xs ys : List V) (vs us : List Value), eqOks 59 ds = true → eqOks 59 es = true → cmpCs ds es = true → Reps W ds xs → Reps W es ys → Vals xs vs → Vals ys us →
    (b = true → i = 0 → ∀ d r, ds = d :: r → tyTag d ≠ 5) → fin = decide (ds.length < es.length) → Q (ltDs ds es) s → KatLex X.prog X.w A b fin Q (vs.zip us) i s
  | [], [], i, _, _, _, _, _, _, _, rd, re, rx, ry, _, hf, hq => by
    cases rd
    cases re
    cases rx
    cases ry
    rw [ltDs_nil] at hq
    exact PySem.W.kat_nil (by rw [hf]; simpa using hq)
  | [], e :: es, i, _, _, _, _, _, _, _, rd, re, rx, ry, _, hf, hq => by
    cases rd
    cases rx
    rw [ltDs_nc] at hq
    rw [List.zip_nil_left]
    exact PySem.W.kat_nil (by rw [hf]; simpa using hq)
  | d :: ds, [], i, _, _, _, _, _, _, _, rd, re, rx, ry, _, hf, hq => by
    cases re
    cases ry
    rw [ltDs_cn] at hq
    rw [List.zip_nil_right]
    exact PySem.W.kat_nil (by rw [hf]; simpa using hq)
  | d :: ds, e :: es, i, _, _, _, _, od, oe, hc, rd, re, rx, ry, hb, hf, hq => by
    obtain ⟨x, xs, rfl, h1, h2⟩ := rd
    obtain ⟨y, ys, rfl, h3, h4⟩ := re
    rw [eqOks, Bool.and_eq_true] at od oe
    rw [cmpCs] at hc
    have up : ∀ d, eqOk 59 d = true → eqOk 60 d = true := fun d h => eqOk_le 59 60 (by omega) d h
    cases rx with
    | cons r1 r2 =>
      cases ry with
      | cons r3 r4 =>
        rw [List.zip_cons_cons]
        refine PySem.W.kat_cons ((eq_rc I B 59 d e A x y _ _ od.1 oe.1 (by omega) h1 h3 r1 r3).1 X.prog X.w _ _ ?_)
        cases hx : eqD d e with
        | true =>
          rw [hx, if_pos rfl] at hc
          rw [ltDs_yes hx] at hq
          refine PySem.W.kat_yes (kat_D I B hu ds es (i + 1) _ _ _ _ od.2 oe.2 hc h2 h4 r2 r4 (fun _ hi => absurd hi (Nat.succ_ne_zero i)) ?_ hq)
          rw [hf]
          simp
        | false =>
          rw [hx, if_neg Bool.false_ne_true] at hc
          rw [ltDs_no hc hx] at hq
          refine PySem.W.kat_no ?_
          cases hbi : (b && i == 0) with
          | true =>
            rw [Bool.and_eq_true] at hbi
            have q1 := hb hbi.1 (by simpa using hbi.2) d ds rfl
            refine one_ty I B (up d od.1) (up e oe.1) hc ?_ hu h1 h3 r1 r3 hq
            cases d <;> first | rfl | (exact absurd rfl q1) | (simp [cmpC] at hc; done)
          | false => exact one_gen I B (up d od.1) (up e oe.1) hc hu h1 h3 r1 r3 hq
end
end DL


/-! DL26: sorted(xs) -/
namespace DL
open PySem L2 PyProof.Rows PySem.SeqAt
open PySem.W (EachIs SortsAt keyToks KatTups dataLe sortVals copyHeap)
section
variable {X : Cx} {pins : List (Addr × Obj)} {σ : L2.St} {H : Hp} {s : Shared} {W : Wd} {S : Sh} {A : Around}
theorem isTup1_pd {d : D} (h : isTup1 d = true) : ∃ x r, d = .tup (x :: r) := by
  unfold isTup1 at h
  split at h
  · exact ⟨_, _, rfl⟩
  · cases h
theorem sorts_D (I : Inv X pins σ H s) (B : Base X.KW W S H) {ds : List D} {vs : List Value} (ok : KeyOk ds) (e : EachIs (fun v d => ∃ x, RelV x v ∧ Rep W d x) vs ds) (hu : A.units + 61 < cLine) : SortsAt X.prog X.w A s (kindD W ds) vs := by
  have el : vs.length = ds.length := e.length
  have er : EachIs (fun v d => ∃ as, Reads s.heap v d as) vs (ds.map pd) := each_map' (R := fun v d => ∃ as, Reads s.heap v d as) pd (each_and (P := fun d => eqOk 60 d = true) (fun v d hd ⟨x, r1, r2⟩ => reads_of I B 60 d hd r2 r1) (eqOks_all ok.eq) e)
  refine ⟨fun v hv => ?_, ?_⟩
  · obtain ⟨d, hd, x, r1, r2⟩ := e.left v hv
    exact ⟨_, kindD_some ok.eq hd r1 r2⟩
  by_cases hl : ds.length ≤ 1
  · refine ⟨general', fun E x y a b Q ha hb hq => ?_, fun h2 => by omega⟩
    obtain ⟨d, x', hd, r1, r2, rfl⟩ := kindD_inv ha
    obtain ⟨d', y', hd', r3, r4, rfl⟩ := kindD_inv hb
    exact one_gen I B (eqOks_all ok.eq d hd) (eqOks_all ok.eq d' hd') (ok.cmp d hd d' hd') hu r2 r4 r1 r3 hq
  rcases ok.sh with ⟨ht, hh⟩ | hn | hl'
  · obtain ⟨d0, hd0⟩ : ∃ d, d ∈ ds := by
      cases ds with
      | nil => exact absurd (Nat.zero_le _) hl
      | cons d _ => exact ⟨d, by simp⟩
    obtain ⟨x0, r0, e0⟩ := isTup1_pd (ht d0 hd0)
    have hhd : ∀ x r, D.tup (x :: r) ∈ ds → tyTag x = tyTag x0 := fun x r hm => by
      have := hh _ hm _ hd0
      rw [e0] at this
      exact this
    have ok1 : ∀ x r, D.tup (x :: r) ∈ ds → eqOk 59 x = true := fun x r hm => by
      have := eqOks_all ok.eq _ hm
      rw [eqOk, eqOks, Bool.and_eq_true] at this
      exact this.1
    have okx0 : eqOk 59 x0 = true := ok1 x0 r0 (by rw [← e0]; exact hd0)
    have hdt : ∀ x r, D.tup (x :: r) ∈ ds → PySem.W.dataType (pd x) = PySem.W.dataType (pd x0) := fun x r hm => ty_data (ok1 x r hm) okx0 (hhd x r hm)
    refine ⟨tuples' (PySem.W.dataType (pd x0) != Value.type "tuple"), fun E x y a b Q ha hb hq => ?_, fun h2 E Q hq => ?_⟩
    · obtain ⟨d, x', hd, r1, r2, rfl⟩ := kindD_inv ha
      obtain ⟨d', y', hd', r3, r4, rfl⟩ := kindD_inv hb
      obtain ⟨z, zs, rfl⟩ := isTup1_pd (ht d hd)
      obtain ⟨z', zs', rfl⟩ := isTup1_pd (ht d' hd')
      obtain ⟨a, ws, us, rfl, rfl, q, q1, ⟨o1, g1, g2, n1, g3⟩, t⟩ := B.isTup I r2 r1
      obtain ⟨b, ws', us', rfl, rfl, q', q1', ⟨o2, k1, k2, n2, k3⟩, t'⟩ := B.isTup I r4 r3
      have hq' : Q (ltDs (z :: zs) (z' :: zs')) s := by rw [← ltD_tup]; exact hq
      have l1 : us.toArray.size = (z :: zs).length := by rw [List.size_toArray, ← q1.length, q.length]
      have l2 : us'.toArray.size = (z' :: zs').length := by rw [List.size_toArray, ← q1'.length, q'.length]
      have od : eqOks 59 (z :: zs) = true := by simpa [eqOk] using eqOks_all ok.eq _ hd
      have od' : eqOks 59 (z' :: zs') = true := by simpa [eqOk] using eqOks_all ok.eq _ hd'
      have hc : cmpCs (z :: zs) (z' :: zs') = true := by simpa [cmpC] using ok.cmp _ hd _ hd'
      refine PySem.W.kat_lt g1 g3 k1 k3 (kat_D I B hu (z :: zs) (z' :: zs') 0 _ _ _ _ od od' hc q q' q1 q1' (fun hb _ d r ex => ?_) (by rw [l1, l2]) hq')
      obtain ⟨rfl, rfl⟩ := List.cons.inj ex
      have hne : PySem.W.dataType (pd z) ≠ Value.type "tuple" := by
        rw [hdt z zs hd]
        intro z'
        rw [z'] at hb
        exact absurd hb (by decide)
      intro z5
      apply hne
      cases z <;> first | (cases z5; done) | (simp only [pd]; rfl)
    · obtain ⟨fs, t1, t2, t3⟩ := PySem.W.each_katTups er (fun d hd => by
        obtain ⟨d', hd', rfl⟩ := List.mem_map.1 hd
        obtain ⟨x, r, rfl⟩ := isTup1_pd (ht d' hd')
        exact ⟨_, _, by rw [pd, pds]⟩)
      refine PySem.W.kat_kind (T := PySem.W.dataType (pd x0)) t1 (by omega) (fun f hf => ?_) (beq_self_eq_true _) hq
      obtain ⟨x, r, as, m1, m2⟩ := t3 f hf
      obtain ⟨d', hd', e'⟩ := List.mem_map.1 m1
      obtain ⟨x', r', rfl⟩ := isTup1_pd (ht d' hd')
      rw [pd, pds] at e'
      injection e' with e'
      obtain ⟨rfl, rfl⟩ := List.cons.inj e'
      rw [← hdt x' r' hd']
      exact PySem.W.looks_reads m2
  · refine ⟨oneType', fun E x y a b Q ha hb hq => ?_, fun h2 E Q hq => ?_⟩
    · obtain ⟨d, x', hd, r1, r2, rfl⟩ := kindD_inv ha
      obtain ⟨d', y', hd', r3, r4, rfl⟩ := kindD_inv hb
      rw [keyLt'_oneType]
      exact one_ty I B (eqOks_all ok.eq d hd) (eqOks_all ok.eq d' hd') (ok.cmp d hd d' hd') (hn d hd) hu r2 r4 r1 r3 hq
    · obtain ⟨d0, hd0⟩ : ∃ d, d ∈ ds := by
        cases ds with
        | nil => exact absurd (Nat.zero_le _) hl
        | cons d _ => exact ⟨d, by simp⟩
      have ht0 : (PySem.W.dataType (pd d0) != Value.type "tuple") = true := by
        have := hn d0 hd0
        cases d0 <;> first | (cases this; done) | (simp only [pd]; rfl)
      refine PySem.W.kas_kind (T := PySem.W.dataType (pd d0)) h2 (fun v hv => ?_) ht0 (beq_self_eq_true _) hq
      obtain ⟨d, hd, as, r⟩ := er.left v hv
      obtain ⟨d', hd', rfl⟩ := List.mem_map.1 hd
      rw [← ty_data (eqOks_all ok.eq d' hd') (eqOks_all ok.eq d0 hd0) (cmp_tag (ok.cmp d' hd' d0 hd0))]
      exact PySem.W.looks_reads r
  · exact absurd hl' hl
end
/-! the call -/
def srtOk (ds : List D) : Bool := keyOk ds
def sortD (ds : List D) : List D := ds.mergeSort fun a b => !ltD b a
theorem sort_le (f : D → D) : dataLe false (fun d => pd (f d)) = fun a b => !ltD (f b) (f a) := rfl
def rSrt (K : Fr) : List V → Hp → VK → Prop := fun xs H Q => ∃ W S d v ds, Base K W S H ∧ xs = [v] ∧ Rep W d v ∧ lstD d = some ds ∧ srtOk ds = true ∧ ∀ p vs', H p = none → Reps W (sortD ds) vs' → Q (.ref p) (upd H p (.lst vs'))
def nSort (dl : DE) : DN := fun ρ S => (dl ρ S).bind fun p => (lstD p.1).bind fun ds => if srtOk ds then some (sortD ds, p.2) else none
section
variable {X : Cx} {e : Expr} {pos : Pos}
theorem cr_srt (hu : X.A.units + 64 < cLine) : CallR X (.builtin "sorted") (rSrt X.KW) := by
  intro pins s σ H xs us Q I r ⟨W, S, d, v, ds, B, hx, rv, e1, ok, q⟩
  subst hx
  obtain ⟨a, vs, rfl, h3, h4⟩ := B.lst_seq rv e1
  obtain ⟨its, rv', hl, hz⟩ := I.list h3
  rw [L2.Vals.ref1 r]
  have ok' := key_parts ok
  have e := each_of h4 rv'
  have I2 : Inv X pins σ H { s with heap := PySem.W.sortingHeap (copyHeap s.heap its) (s.heap.objs.size + 1) its } := I.kept (t' := s.toks) fun b o eb => PySem.W.sorting_copy_old eb
  have SA : SortsAt X.prog X.w X.A.in1.in1 { s with heap := PySem.W.sortingHeap (copyHeap s.heap its) (s.heap.objs.size + 1) its } (kindD W ds) its := sorts_D I2 B ok' e (by show X.A.units + 2 + 61 < cLine; omega)
  refine PySem.W.sorted_vals hl.isList SA (by rw [← rv'.length]; exact hz) ?_
  have h2 : EachIs (fun v d => ∃ x, RelV x v ∧ Rep W d x) (sortVals (kindD W ds) false its its) (sortD ds) :=
    PySem.W.sortVals_each (κ := kindD W ds) (rev := false) (fun d => tk d) e (each_and (P := fun d => d ∈ ds) (fun v d hd ⟨x, r1, r2⟩ => kindD_some ok'.eq hd r1 r2) (fun _ h => h) e)
  obtain ⟨xs, k1, k2⟩ := of_each h2
  obtain ⟨ep, he'⟩ := PyProof.Rows.sortedAll_at s.heap its (sortVals (kindD W ds) false its its).toArray
  have hlen : xs.length ≤ sizeLine := by
    rw [k1.length]
    unfold sortD
    rw [List.length_mergeSort]
    exact ok'.len
  exact ⟨.ref _, upd H (s.heap.objs.size + 1) (.lst xs), I.laid (t' := s.toks) (fun _ _ => PyProof.Rows.sortedAll_old) (Nat.le_succ _) ⟨hlen, _, ep, k2, he'⟩, rfl, q _ _ (I.hok.fresh (Nat.le_succ _)) k1⟩
theorem bt_sorted : bootBuiltins "sorted" = some (.builtin "sorted") := by decide +kernel
theorem dn_sort {p : Pos} {da : DE} (hu : X.A.units + 64 < cLine) (hm : X.mg "sorted" = none) (ha : PE' X e da) (hg : Gl X "sorted" := by rfl)
    (he : starEach [e] X.env = (false, eval e X.env) :: starEach [] X.env := by rfl) (hpl : (backTo pos (starEach [] X.env)).any (·.1) = false := by rfl) : PN X (.Call (.Name "sorted" p) [e] [] pos) (nSort da) :=
  PE.imp (pe_callB (cr_srt hu) hg hm bt_sorted (pa_cons ha pa_nil he) (by decide) (by decide) he hpl) fun σ H Q => by
  rintro ⟨W, ρ, S, r, S', R, hd, k⟩
  obtain ⟨⟨d, S1⟩, e1, hd⟩ := bindS hd
  obtain ⟨ds, e2, hd⟩ := bindS hd
  simp only [Option.ite_none_right_eq_some] at hd
  obtain ⟨ok, hd⟩ := hd
  cases hd
  refine ⟨W, ρ, S, d, _, R, e1, fun W1 v H1 s1 R1 r1 => ?_⟩
  refine ⟨W1, _, d, v, ds, R1.base, rfl, r1, e2, ok, fun l vs hl hr => ?_⟩
  obtain ⟨B', s'⟩ := R1.base.alloc (.lst vs) hl
  exact k W1 l vs _ (s1.trans s') ⟨B', R1.env⟩ ⟨upd_same, hr, (R1.base.free hl).1, (R1.base.free hl).2, s1.back hl⟩
end
end DL


/-! DL27: sorted by a def of the text -/
namespace DL
open PySem L2 PyProof.Rows
open PySem.W (dataLe EachIs KeepsBut SortsAt dataKind copyHeap sortVals)
def sortK (ds ks : List D) : List D := ((ds.zip ks).mergeSort fun a b => !ltD b.2 a.2).map (·.1)
def keysD (m : DF) : List D → Sh → Option (List D × Sh)
  | [], S => some ([], S)
  | d :: ds, S => (m [d] S).bind fun p => (keysD m ds p.2).map fun q => (p.1 :: q.1, q.2)
theorem keysD_take {m : DF} : ∀ {ds ks : List D} {S S' : Sh}, keysD m ds S = some (ks, S') → ks.length = ds.length ∧ ∀ (i : Nat) d, ds[i]? = some d → ∃ k Si Sj, m [d] Si = some (k, Sj) ∧ ks[i]? = some k ∧ keysD m (ds.take i) S = some (ks.take i, Si) ∧ keysD m (ds.take (i + 1)) S = some (ks.take (i + 1), Sj)
  | [], ks, S, S', h => by
    cases h
    exact ⟨rfl, fun i d e => by simp at e⟩
  | x :: ds, ks, S, S', h => by
    obtain ⟨⟨k, S1⟩, e1, h⟩ := bindS h
    obtain ⟨⟨ks', S2⟩, e2, h⟩ := mapS h
    cases h
    obtain ⟨i1, i2⟩ := keysD_take e2
    refine ⟨by simp [i1], fun i d e => ?_⟩
    cases i with
    | zero =>
      simp only [List.getElem?_cons_zero, Option.some.injEq] at e
      subst e
      refine ⟨k, S, S1, e1, rfl, rfl, ?_⟩
      simp only [List.take_succ_cons, List.take_zero, keysD, e1, Option.bind_some, Option.map_some]
    | succ i =>
      obtain ⟨k', Si, Sj, j1, j2, j3, j4⟩ := i2 i d (by simpa using e)
      refine ⟨k', Si, Sj, j1, by simpa using j2, ?_, ?_⟩
      · simp only [List.take_succ_cons, keysD, e1, Option.bind_some, j3, Option.map_some]
      · rw [List.take_succ_cons (i := i + 1), keysD, e1, Option.bind_some, j4]
        rfl
section
variable {X : Cx} {pins : List (Addr × Obj)} {σ : L2.St}
theorem run_in {A : Around} {f : Addr} {fd : FuncData} {ps : List Str} {k : Nat} {sp : Sp} {H : Hp} {s : Shared} {Q : VK} {us : List Value} {vs : List V} {R : Value → Shared → Prop} (F : FnOk X.prog X.w X.KW X.mg X.base L2.CX0 k f fd ps sp) (hr : Room k A) (hb : Binds X.KW fd ps [])
    (e0 : Env0 X.prog X.w X.KW X.mg X.base A X.stack s H) (I : Inv X pins σ H s) (r : Vals vs us) (h : sp vs H Q L2.E0) : wpAny (model X.prog X.w) A (call (.ref f) us) (EP X pins σ Q) R s := by
  have hl : us.length = ps.length := by rw [← r.length]; exact F.len _ _ _ _ h
  have b := hb s us I.kIn (by simpa using hl)
  rw [List.append_nil] at b
  refine wpAny_call (codeAny_mono (F.run A X.stack s H ⟨us, []⟩ us vs Q L2.E0 hr e0 b r h) fun r s' hq => ?_)
  cases r with
  | error e => exact False.elim hq
  | ok fl =>
    cases fl with
    | ret u => exact I.after hq
    | next => exact False.elim hq
    | brk => exact False.elim hq
    | cont => exact False.elim hq
/-- a heap without one object -/
def lessH (h : Heap) (a : Addr) : Heap := h.update a fun o => { o with data := .freed }
theorem lessH_at (h : Heap) (a : Addr) : (lessH h a).get? a = none := by
  unfold lessH Heap.get? Heap.update
  cases h with
  | mk objs life =>
    simp only [Array.getElem?_modify, if_true]
    cases objs[a]? <;> rfl
theorem lessH_ne {h : Heap} {a b : Addr} (e : b ≠ a) : (lessH h a).get? b = h.get? b := Heap.get?_update_ne _ _ _ _ e
theorem reps_take {W : Wd} {ds : List D} : ∀ {vs : List V} (n : Nat), Reps W ds vs → Reps W (ds.take n) (vs.take n) := by
  induction ds with
  | nil =>
    intro vs n h
    obtain rfl : vs = [] := h
    simp [Reps]
  | cons d ds ih =>
    intro vs n h
    obtain ⟨v, r, rfl, h1, h2⟩ := h
    cases n with
    | zero => rfl
    | succ n => exact ⟨v, r.take n, rfl, h1, ih n h2⟩
theorem reps_snoc {W : Wd} {ds : List D} {vs : List V} {d : D} {v : V} (h : Reps W ds vs) (r : Rep W d v) : Reps W (ds ++ [d]) (vs ++ [v]) := h.append ⟨v, [], rfl, r, rfl⟩
theorem inv_pin2 {H : Hp} {s : Shared} {a b : Addr} {o u : Obj} (I : Inv X pins σ H s) (fa : FpOk X pins H a) (fb : FpOk X pins H b) (ea : s.heap.get? a = some o) (eb : s.heap.get? b = some u) (ho : ∀ v, o.data ≠ .cell v) (hu : ∀ v, u.data ≠ .cell v) :
    Inv X ((a, o) :: (b, u) :: pins) σ H s := I.pins_of fun p hp => by
  rcases List.mem_cons.1 hp with rfl | hp
  · exact ⟨ea, fa.1, fa.2.1, fa.2.2.1, ho⟩
  · rcases List.mem_cons.1 hp with rfl | hp
    · exact ⟨eb, fb.1, fb.2.1, fb.2.2.1, hu⟩
    · exact I.pin p (List.mem_append_right _ hp)
theorem inv_unpin2 {H : Hp} {s : Shared} {p q : Addr × Obj} (I : Inv X (p :: q :: pins) σ H s) : Inv X pins σ H s := I.pins_of fun r hr => I.pin r (List.mem_append_right _ (List.mem_cons_of_mem _ (List.mem_cons_of_mem _ hr)))
end
theorem each_fst {α β γ : Type} {R : α → β → Prop} : ∀ {as : List α} {bs : List β} {cs : List γ}, EachIs R as bs → cs.length = bs.length → EachIs (fun a (p : β × γ) => R a p.1) as (bs.zip cs)
  | _, _, [], .nil, _ => .nil
  | _, _, _ :: _, .nil, h => by simp at h
  | _, _, [], .cons _ _, h => by simp at h
  | _, _, _ :: _, .cons r t, h => .cons r (each_fst t (by simpa using h))
theorem each_snd {α β γ : Type} {R : α → γ → Prop} : ∀ {as : List α} {bs : List β} {cs : List γ}, EachIs R as cs → cs.length = bs.length → EachIs (fun a (p : β × γ) => R a p.2) as (bs.zip cs)
  | _, [], _, .nil, _ => .nil
  | _, _ :: _, _, .nil, h => by simp at h
  | _, [], _, .cons _ _, h => by simp at h
  | _, _ :: _, _, .cons r t, h => .cons r (each_snd t (by simpa using h))
theorem each_maps {α β γ : Type} {R : α → γ → Prop} (f : β → γ) : ∀ {as : List α} {bs : List β}, EachIs (fun a b => R a (f b)) as bs → EachIs R as (bs.map f)
  | _, _, .nil => .nil
  | _, _, .cons r t => .cons r (each_maps f t)
theorem seq_cell (c : String) (xs : Array Value) (n : Nat) : ∀ v, (seqObj c xs n).data ≠ .cell v := fun v h => nomatch h
section
variable {X : Cx} {pins : List (Addr × Obj)} {σ : L2.St} {a kS f : Addr} {fd : FuncData} {ps : List Str} {k : Nat} {m : DF} {ds ks : List D} {xs : List V} {vs : List Value} {e1 : Nat}
def KeyAt (X : Cx) (pins : List (Addr × Obj)) (σ : L2.St) (W : Wd) (H : Hp) (m : DF) (ds ks : List D) (S : Sh) (a kS : Addr) (e1 i : Nat) (s' : Shared) : Prop :=
  ∃ W' H' Si kvs kA e, Inv X ((a, seqObj "list" #[] e1) :: (kS, seqObj "list" kA e) :: pins) σ H' s' ∧ Stp W W' H H' ∧ Base X.KW W' Si H' ∧ keysD m (ds.take i) S = some (ks.take i, Si) ∧ Reps W' (ks.take i) kvs ∧ Vals kvs kA.toList
theorem fp_at {H H' : Hp} {p : Addr} (h : FpOk X pins H p) (h' : H' p = none) : FpOk X pins H' p := ⟨h', h.2⟩
theorem key_turn {W : Wd} {H : Hp} {S S' : Sh} {s' : Shared} {j : Nat} {x : Value} {E : Value → Shared → Prop} (F : FnOk X.prog X.w X.KW X.mg X.base L2.CX0 k f fd ps (spD X.KW 1 m)) (hr : Room k X.A.in1.in1) (hb : Binds X.KW fd ps [])
    (hk : keysD m ds S = some (ks, S')) (rd : Reps W ds xs) (rv : Vals xs vs) (hZ : vs.length ≤ sizeLine) (fa : FpOk X pins H a) (fk : FpOk X pins H kS) (hne : kS ≠ a) (hx : vs[j]? = some x) (J : KeyAt X pins σ W H m ds ks S a kS e1 j s') :
    wpAny (model X.prog X.w) X.A.in1.in1 (call (.ref f) [x]) (fun u s'' => ∃ kA e o, s''.heap.get? kS = some (seqObj "list" kA e) ∧ kA.size ≤ vs.length ∧
      KeyAt X pins σ W H m ds ks S a kS e1 (j + 1) { s'' with heap := s''.heap.update kS (Obj.mapSeq (·.push u)), os := o } ∧ o = s''.os) E s' := by
  obtain ⟨W', H', Si, kvs, kA, e, I, st, B, hi, rk, vk⟩ := J
  obtain ⟨kl, kt⟩ := keysD_take hk
  have hj : j < vs.length := (List.getElem?_eq_some_iff.mp hx).1
  have l1 := rv.length
  have l2 := rd.length
  obtain ⟨d, hd⟩ : ∃ d, ds[j]? = some d := ⟨_, List.getElem?_eq_getElem (by omega)⟩
  obtain ⟨kd, Si', Sj, c1, c2, c3, c4⟩ := kt j d hd
  rw [hi] at c3
  have ee : Si = Si' := by
    have := Option.some.inj c3
    exact (Prod.mk.inj this).2
  subst ee
  obtain ⟨y, hy, ry⟩ := rd.get hd
  obtain ⟨x', hx', rx⟩ := rv.get hy
  rw [hx] at hx'
  cases hx'
  have hks : kA.size ≤ vs.length := by
    have h1 := vk.length
    have h2 := rk.length
    rw [List.length_take] at h2
    have h3 : kA.toList.length = kA.size := Array.length_toList
    omega
  refine wpAny_mono (run_in F hr hb (I.env0.in1.in1) I (vs := [y]) (Q := fun v H'' => ∃ W'', Stp W' W'' H' H'' ∧ Base X.KW W'' Sj H'' ∧ Rep W'' kd v) (R := E) (.cons rx .nil) ?_) ?_ fun _ _ z => z
  · exact ⟨W', Si, [d], kd, Sj, B, ⟨y, [], rfl, ry.mono st.le, rfl⟩, rfl, c1, fun W'' v H'' s2 B2 r2 => ⟨W'', s2, B2, r2⟩⟩
  · rintro u s'' ⟨v, H'', I2, rv2, W'', s2, B2, r2⟩
    have p1 := I2.pin (a, seqObj "list" #[] e1) (by simp)
    have p2 := I2.pin (kS, seqObj "list" kA e) (by simp)
    refine ⟨kA, e, _, p2.1, hks, ?_, rfl⟩
    have q2 := get?_update_seq p2.1 (·.push u)
    have I3 := inv_unpin2 I2
    have fk2 : FpOk X pins H'' kS := fp_at fk p2.2.1
    have fa2 : FpOk X pins H'' a := fp_at fa p1.2.1
    have I4 : Inv X pins σ H'' { s'' with heap := s''.heap.update kS (Obj.mapSeq (·.push u)), toks := s''.toks } := I3.turnedL (ch := [kS]) (fun b o hb' eb => (Heap.get?_update_ne _ _ _ _ (fun z => hb' (by simp [z]))).trans eb) (fun b hb' => by
      have : b = kS := by simpa using hb'
      subst this
      exact fk2)
    refine ⟨W'', H'', Sj, kvs ++ [v], kA.push u, _, inv_pin2 I4 fa2 fk2 ((Heap.get?_update_ne _ _ _ _ (Ne.symm hne)).trans p1.1) q2 (seq_cell _ _ _) (seq_cell _ _ _), st.trans s2, B2, c4, ?_, ?_⟩
    · rw [List.take_add_one, c2]
      exact reps_snoc (Reps.mono s2.le _ rk) r2
    · rw [Array.toList_push]
      exact vk.append (.cons rv2 .nil)
end
end DL


/-! DL28: sorted(xs, key=f) -/
namespace DL
open PySem L2 PyProof.Rows
open PySem.W (dataLe EachIs KeepsBut SortsAt dataKind copyHeap sortVals)
section
variable {X : Cx} {pins : List (Addr × Obj)} {σ : L2.St} {a kS f : Addr} {fd : FuncData} {ps : List Str} {k : Nat} {m : DF} {ds ks : List D} {xs : List V} {vs : List Value} {e1 : Nat}
theorem key_rest {W : Wd} {H : Hp} {S S' : Sh} {s : Shared} {E : Value → Shared → Prop} {P : PySem.Fin → Shared → Prop} (F : FnOk X.prog X.w X.KW X.mg X.base L2.CX0 k f fd ps (spD X.KW 1 m)) (hr : Room k X.A.in1.in1) (hb : Binds X.KW fd ps [])
    (I : Inv X pins σ H s) (B : Base X.KW W S H) (hk : keysD m ds S = some (ks, S')) (ok : keyOk ks = true) (rd : Reps W ds xs) (rv : Vals xs vs) (hZ : vs.length ≤ sizeLine) (fa : FpOk X pins H a) (fk : FpOk X pins H kS) (hne : kS ≠ a) (hu : X.A.units + 64 < cLine)
    (na : s.heap.get? a = some (seqObj "list" #[] e1)) (nk : s.heap.get? kS = some (seqObj "list" #[] 0))
    (h : ∀ W' H' s' out c, Stp W W' H H' → Base X.KW W' S' H' → Inv X pins σ H' s' → FpOk X pins H' a → s'.heap.get? a = some (seqObj "list" (List.toArray out) c) → EachIs (fun v d => ∃ x, RelV x v ∧ Rep W' d x) out (sortK ds ks) → P (.done (.ret .none)) s') :
    wpAny (model X.prog X.w) X.A.in1.in1 (ksk_rest a (.ref f) false vs.toArray e1 (.ref kS)) P E s := by
  obtain ⟨kl, kt⟩ := keysD_take hk
  have l1 := rv.length
  have l2 := rd.length
  unfold ksk_rest
  refine wpAny_bind (wpAny_rule ?_)
  first
    | rw [List.forIn_toArray]
    | (rw [← Array.forIn_toList]; simp only [])
    | rw [← Array.forIn_toList]
  refine wpAny_bind (ksk_fold (KeyAt X pins σ W H m ds ks S a kS e1) vs 0 s ?st ?step ?done)
  case st =>
    exact ⟨W, H, S, [], #[], 0, inv_pin2 I fa fk na nk (seq_cell _ _ _) (seq_cell _ _ _), .refl _ _, B, rfl, rfl, .nil⟩
  case step =>
    intro j x s' hx J
    rw [Nat.zero_add] at J ⊢
    refine wpAny_bind (wpAny_attempt (wpAny_mono (key_turn (E := fun _ _ => False) F hr hb hk rd rv hZ fa fk hne hx J) (fun u s'' z => ?_) fun _ _ z => z.elim))
    obtain ⟨kA, e, o, g1, g2, g3, rfl⟩ := z
    try dsimp only
    refine wpAny_bind (listUpdate_at g1 rfl ?_ (Nat.le_trans g2 hZ) ?_)
    · exact wpAny_pure ⟨rfl, g3⟩
    · rw [Array.size_push]
      omega
  case done =>
    rintro s' ⟨W', H', Si, kvs, kA, e, I', st, B', hi, rk, vk⟩
    rw [Nat.zero_add] at hi rk
    have t1 : ds.take vs.length = ds := List.take_of_length_le (by omega)
    have t2 : ks.take vs.length = ks := List.take_of_length_le (by omega)
    rw [t1, t2, hk] at hi
    rw [t2] at rk
    have es : S' = Si := (Prod.mk.inj (Option.some.inj hi)).2
    subst es
    have p1 := I'.pin (a, seqObj "list" #[] e1) (by simp)
    have p2 := I'.pin (kS, seqObj "list" kA e) (by simp)
    have I3 := inv_unpin2 I'
    have fk2 : FpOk X pins H' kS := fp_at fk p2.2.1
    have fa2 : FpOk X pins H' a := fp_at fa p1.2.1
    have ok' := key_parts ok
    have er := each_of rk vk
    have hsz : kA.size = vs.length := by
      have h1 := er.length
      have h3 : kA.toList.length = kA.size := Array.length_toList
      omega
    have SA : SortsAt X.prog X.w X.A.in1.in1 s' (kindD W' ks) kA.toList := sorts_D I3 B' ok' er (by show X.A.units + 2 + 61 < cLine; omega)
    try dsimp only
    refine wpAny_bind (listItems_at p2.1 rfl ?_)
    refine PySem.W.keyH_end (κ := kindD W' ks) (h₁ := lessH s'.heap kS) (fun b o _ eb => ?_) (lessH_at _ _) p2.1 p1.1 hne SA hsz hZ fun h' tk c kp e' => ?_
    · by_cases q : b = kS
      · rw [q, lessH_at] at eb
        cases eb
      · rwa [lessH_ne q] at eb
    · refine h W' H' { s' with heap := h', toks := tk } _ c st B' (I3.turnedL (ch := [a, kS]) (fun b o hb' eb => ?_) fun b hb' => ?_) fa2 e' ?_
      · refine kp b o (fun z => hb' (by simp [z])) ?_
        rw [lessH_ne (fun z => hb' (by simp [z]))]
        exact eb
      · rcases List.mem_cons.1 hb' with rfl | hb'
        · exact fa2
        · have : b = kS := by simpa using hb'
          subst this
          exact fk2
      · have q1 : EachIs (fun v (b : D × D) => ∃ x, RelV x v ∧ Rep W' b.1 x) vs (ds.zip ks) := each_fst (each_of (Reps.mono st.le _ rd) rv) kl
        have q2 : EachIs (fun v (b : D × D) => (kindD W' ks).keyOf v = some (DL.tk b.2)) kA.toList (ds.zip ks) :=
          each_snd (R := fun v d => (kindD W' ks).keyOf v = some (DL.tk d)) (each_and (P := fun d => d ∈ ks) (fun v d hd ⟨x, r1, r2⟩ => kindD_some ok'.eq hd r1 r2) (fun _ h => h) er) kl
        exact each_maps (R := fun v d => ∃ x, RelV x v ∧ Rep W' d x) (fun b : D × D => b.1) (PySem.W.sortVals_each (κ := kindD W' ks) (rev := false) (fun b : D × D => DL.tk b.2) q1 q2)
end
end DL


/-! DL29: sorted(xs, key=f), the call -/
namespace DL
open PySem L2 PyProof.Rows
open PySem.W (EachIs copyHeap)
def rSrtK (K : Fr) (f : Addr) (m : DF) : List V → List V → Hp → VK → Prop := fun xs zs H Q => ∃ W S S' d v ds ks, Base K W S H ∧ xs = [v] ∧ zs = [.ref f] ∧ Rep W d v ∧ lstD d = some ds ∧ keysD m ds S = some (ks, S') ∧ keyOk ks = true ∧
  ∀ W' H' p vs', Stp W W' H H' → Base K W' S' H' → H' p = none → H p = none → Reps W' (sortK ds ks) vs' → Q (.ref p) (upd H' p (.lst vs'))
def nSortK (m : DF) (dl : DE) : DN := fun ρ S => (dl ρ S).bind fun p => (lstD p.1).bind fun ds => (keysD m ds p.2).bind fun q => if keyOk q.1 then some (sortK ds q.1, q.2) else none
section
variable {X : Cx} {e : Expr} {pos : Pos} {f : Addr} {fd : FuncData} {ps : List Str} {k j : Nat} {m : DF}
theorem cr_srtK (F : FnOk X.prog X.w X.KW X.mg X.base L2.CX0 k f fd ps (spD X.KW 1 m)) (hr : Room (k + 2) X.A) (hb : Binds X.KW fd ps []) : CallRK X (.builtin "sorted") [Str.ofString "key"] (rSrtK X.KW f m) := by
  intro pins s σ H xs zs us ws Q I r rz ⟨W, S, S', d, v, ds, ks, B, hx, hz, rv, e1, hk, ok, q⟩
  subst hx hz
  obtain ⟨l, vs, rfl, h3, h4⟩ := B.lst_seq rv e1
  obtain ⟨its, rv', hl, hz⟩ := I.list h3
  obtain rfl := Vals.ref1 r
  obtain rfl := Vals.ref1 rz
  have hu := hr.units
  have hL : its.length ≤ sizeLine := by rw [← rv'.length]; exact hz
  have hsz : ∀ h : Heap, (copyHeap h its).objs.size = h.objs.size + 2 := fun h => by
    unfold copyHeap
    rw [size_push', Heap.size_update, size_push']
  show wpAny (model X.prog X.w) X.A (call (.builtin "sorted") [.ref l] [(Str.ofString "key", .ref f)]) _ _ s
  refine PySem.W.sorted_of_sort hl.isList hL (ksk_s1 _ _) (fun _ => ksk_l1 _ _) fun E' => ?_
  rw [ksk_t1]
  have c0 := PySem.W.copyHeap_at s.heap its
  obtain ⟨e1', ho1⟩ : ∃ e1, ((copyHeap s.heap its).update (s.heap.objs.size + 1) (Obj.mapSeq fun _ => #[])).get? (s.heap.objs.size + 1) = some (seqObj "list" #[] e1) := ⟨_, get?_update_seq c0 fun _ => #[]⟩
  unfold ksk_tree
  refine wpAny_bind (listItems_at (s := { s with heap := copyHeap s.heap its }) c0 rfl ?_)
  refine wpAny_bind (listUpdate_at (s := { s with heap := copyHeap s.heap its }) c0 rfl ?_ (by rw [List.size_toArray]; exact hL) (Nat.zero_le _))
  refine wpAny_bind (seqEpoch_at ho1 rfl ?_)
  refine wpAny_bind (wpAny_newTuple ?_ (by show its.length ≤ _; exact hL))
  refine wpAny_bind (wpAny_newList ?_ (Nat.zero_le _))
  refine wpAny_holding ?_
  have keep : ∀ b o, s.heap.get? b = some o → (((((copyHeap s.heap its).update (s.heap.objs.size + 1) (Obj.mapSeq fun _ => #[])).push (seqObj "tuple" its.toArray 0)).push (seqObj "list" #[] 0))).get? b = some o := fun b o eb =>
    Heap.get?_push_of_some _ (Heap.get?_push_of_some _ ((Heap.get?_update_ne _ _ _ _ (Nat.ne_of_lt (Nat.lt_succ_of_lt (Heap.lt_size eb)))).trans (PySem.W.copyHeap_old eb)))
  have hkS : (((copyHeap s.heap its).update (s.heap.objs.size + 1) (Obj.mapSeq fun _ => #[])).push (seqObj "tuple" its.toArray 0)).objs.size = s.heap.objs.size + 3 := by
    rw [size_push', Heap.size_update, hsz]
  have hr1 : Room k X.A.in1.in1 := (show Room (k + 1) X.A.in1 from Room.in1 hr).in1
  have I1 := I.kept (t' := s.toks) keep
  have n1 : H (s.heap.objs.size + 1) = none := I.hok.fresh (by omega)
  have n3 : H (s.heap.objs.size + 3) = none := I.hok.fresh (by omega)
  refine key_rest (P := fun f s' => f = .done (.ret .none) ∧ EP X pins σ Q (.ref (s.heap.objs.size + 1)) s') F hr1 hb I1 B hk ok h4 rv' hL (I.fpOk (by omega) n1) (I.fpOk (by rw [hkS]; omega) (by rw [hkS]; exact n3)) (by rw [hkS]; exact Nat.ne_of_gt (by omega)) hu
    (Heap.get?_push_of_some _ (Heap.get?_push_of_some _ ho1)) (Heap.get?_push_size _ rfl) fun W' H' s' out c st B' I' fp ea eo => ⟨rfl, ?_⟩
  obtain ⟨xs, k1, k2⟩ := of_each eo
  have hlen : xs.length ≤ sizeLine := by
    have := (key_parts ok).len
    have h2 := keysD_take hk
    rw [k1.length]
    unfold sortK
    rw [List.length_map, List.length_mergeSort, List.length_zip]
    omega
  refine ⟨.ref _, upd H' (s.heap.objs.size + 1) (.lst xs), Inv.take (t' := s'.toks) I' (fun _ _ _ z => z) fp ⟨hlen, out, c, k2, ea⟩, rfl, q W' H' _ xs st B' fp.1 n1 k1⟩
theorem dn_sortK {x : Str} {p p2 kp : Pos} {da : DE} (F : Callee X.prog X.w X.KW X.mg X.base x j ps (spD X.KW 1 m)) (hr : Room k X.A) (hm : X.mg "sorted" = none) (ha : PE' X e da) (hj : j + 2 ≤ k := by first | decide | omega) (hg : Gl X "sorted" := by rfl) (hgf : Gl X x := by rfl)
    (hdb : (x == ("__debug__" : Str)) = false := by decide) (he : starEach [e] X.env = (false, eval e X.env) :: starEach [] X.env := by rfl)
    (he2 : backTo pos (starEach [e] X.env) = (false, eval e X.env) :: backTo pos (starEach [] X.env) := by rfl) (hpl : (backTo pos (starEach [e] X.env)).any (·.1) = false := by rfl)
    (hall : (backToKw pos (keywordEach [⟨some "key", .Name x p2, kp⟩] X.env)).all (·.1.isSome) = true := by rfl) (hnone : (backToKw pos (keywordEach [⟨some "key", .Name x p2, kp⟩] X.env)).any (·.1.isNone) = false := by rfl)
    (hks : (backToKw pos (keywordEach [⟨some "key", .Name x p2, kp⟩] X.env)).filterMap (·.1) = [Str.ofString "key"] := by rfl) : PN X (.Call (.Name "sorted" p) [e] [⟨some "key", .Name x p2, kp⟩] pos) (nSortK m da) := by
  obtain ⟨f, fd, h1, h2, h3, h4, _⟩ := F.ex
  refine PE.imp (pe_callBK (cr_srtK h1 (hr.mono hj) h4) hg hm bt_sorted (pa_cons ha pa_nil he) (pk_cons (C8.pe_gc (v := .ref f) hgf ⟨_, h2, rfl⟩ hdb) pk_nil) (by decide) (by decide) he2 hpl hall hnone hks) fun σ H Q => ?_
  rintro ⟨W, ρ, S, r, S', R, hd, k1⟩
  obtain ⟨⟨d, S1⟩, e1, hd⟩ := bindS hd
  obtain ⟨ds, e2, hd⟩ := bindS hd
  obtain ⟨⟨ks, S2⟩, e3, hd⟩ := bindS hd
  simp only [Option.ite_none_right_eq_some] at hd
  obtain ⟨ok, hd⟩ := hd
  cases hd
  refine ⟨W, ρ, S, d, _, R, e1, fun W1 v H1 s1 R1 r1 => ?_⟩
  refine ⟨W1, _, _, d, v, ds, ks, R1.base, rfl, rfl, r1, e2, e3, ok, fun W2 H2 l vs s2 B2 hl hl1 hr' => ?_⟩
  obtain ⟨B', s'⟩ := B2.alloc (.lst vs) hl
  exact k1 W2 l vs _ ((s1.trans s2).trans s') ⟨B', R1.env.mono s2.le⟩ ⟨upd_same, hr', (B2.free hl).1, (B2.free hl).2, s1.back hl1⟩
end
end DL


/-! DL30: fresh lists returned, pop(i), shared lists of a def, reversed, list + list -/
namespace DL
open PySem L2 PyProof.Rows
section
variable {X : Cx} {W0 W W1 : Wd} {S S1 : Sh} {σ : L2.St} {H H1 : Hp} {keep : List Nat} {dl : DA} {a b e o : Expr} {es : List Expr} {pos : Pos} {da db : DE} {dn it : DN} {ρ : Env2}
/-! return of a fresh list -/
def sRetF (keep : List Nat) (d : DN) : DS := fun ρ S => (d (fzE keep 0 ρ) S).map fun p => .ro p.1 p.2
theorem new_ent {p : Addr} (R : RelS X W0 W ρ S σ H) (h : H p = none) : X.H_0 p = none := by
  cases q : X.H_0 p with
  | none => rfl
  | some o =>
    obtain ⟨o', z⟩ := R.ent.ex p o q
    rw [h] at z; cases z
theorem dps_retF [XW] (keep : List Nat) (he : PN X e dn) : PS' X (.Return (some e) pos) (sRetF keep dn) := PS.imp (ps_ret he) fun D σ H => by
  rintro ⟨W0, W, ρ, S, o, R, h, k⟩
  obtain ⟨⟨r, S1⟩, e1, h⟩ := mapS h
  cases h
  exact evN R e1 fun W1 p vs H1 l R1 f _ => k W1 p vs H1 R1.ent R1.base f.at_ f.rep f.t f.m (new_ent R f.new)
/-! list + list -/
def nAdd (da db : DE) : DN := fun ρ S => (da ρ S).bind fun p => (db ρ p.2).bind fun q => match p.1, q.1 with
  | .lst xs, .lst ys => if xs.length + ys.length ≤ sizeLine then some (xs ++ ys, q.2) else none
  | _, _ => none
def rAddL : R2 := fun x y H Q => ∃ p q vs us, x = .ref p ∧ y = .ref q ∧ H p = some (.lst vs) ∧ H q = some (.lst us) ∧ vs.length + us.length ≤ sizeLine ∧ ∀ n, H n = none → Q (.ref n) (upd H n (.lst (vs ++ us)))
theorem op_addL : OpR X (binaryOp .Add) rAddL := by
  intro pins s σ H x y v u Q I rx ry ⟨p, q, vs, us, h1, h2, h3, h4, h5, k⟩
  exact op_cat pins s σ H _ _ v u Q I rx ry ⟨p, q, vs, us, h1, h2, h3, h4, h5, k⟩
theorem dn_add (ha : PE' X a da) (hb : PE' X b db) : PN X (.BinOp a .Add b pos) (nAdd da db) := PE.imp (pe_op op_addL ha hb) fun σ H Q => by
  rintro ⟨W, ρ, S, r, S', R, hd, k⟩
  obtain ⟨⟨x, S1⟩, e1, hd⟩ := bindS hd
  obtain ⟨⟨y, S2⟩, e2, hd⟩ := bindS hd
  split at hd
  · rename_i xs ys q1 q2
    simp only at q1 q2
    subst q1 q2
    simp only [Option.ite_none_right_eq_some] at hd
    obtain ⟨hl, hd⟩ := hd
    cases hd
    refine ⟨W, ρ, S, _, S1, R, e1, fun W1 v H1 s1 R1 r1 => ⟨W1, ρ, S1, _, _, R1, e2, fun W2 u H2 s2 R2 r2 => ?_⟩⟩
    obtain ⟨p, vs, rfl, t1, k1⟩ := r1.mono s2.le
    obtain ⟨q, us, rfl, t2, k2⟩ := r2
    refine ⟨p, q, vs, us, rfl, rfl, R2.base.lst t1, R2.base.lst t2, by rw [k1.length, k2.length]; exact hl, fun n hn => ?_⟩
    obtain ⟨B', s'⟩ := R2.base.alloc (.lst (vs ++ us)) hn
    exact k W2 n _ _ ((s1.trans s2).trans s') ⟨B', R2.env⟩ ⟨upd_same, k1.append k2, (R2.base.free hn).1, (R2.base.free hn).2, (s1.trans s2).back hn⟩
  · cases hd
/-! pop(i) of an own list -/
theorem Reps.eraseIdx {W : Wd} : ∀ {ds : List D} {vs : List V} (n : Nat), Reps W ds vs → Reps W (ds.eraseIdx n) (vs.eraseIdx n)
  | [], _, _, h => by obtain rfl : _ = [] := h; exact rfl
  | d :: ds, _, 0, h => by
    obtain ⟨v, r, rfl, h2, h3⟩ := h
    exact h3
  | d :: ds, _, n + 1, h => by
    obtain ⟨v, r, rfl, h2, h3⟩ := h
    exact ⟨v, _, rfl, h2, Reps.eraseIdx n h3⟩
def popAt (ds : List D) : List D → Option (D × List D)
  | [.int z] => if -(2 ^ 62) ≤ z ∧ z < 2 ^ 62 then (ixN ds.length z).bind fun n => (ds[n]?).map fun d => (d, ds.eraseIdx n) else none
  | [] => (ds[ds.length - 1]?).map fun d => (d, ds.dropLast)
  | _ => none
def popT (i j : Nat) (ρ : Env2) (args : List D) (S : Sh) : Option Out := match ρ[i]? with
  | some (.own ds) => (popAt ds args).map fun p => .nx ((ρ.set i (.own p.2)).set j (.val p.1)) S
  | _ => none
def popX (i : Nat) (ρ : Env2) (args : List D) (S : Sh) : Option Out := match ρ[i]? with
  | some (.own ds) => (popAt ds args).map fun p => .nx (ρ.set i (.own p.2)) S
  | _ => none
/-- x = xs.pop(..) -/
def sPopT (keep : List Nat) (i j : Nat) (dl : DA) : DS := fun ρ S => (dl (fzE keep 0 ρ) S).bind fun p => if chk keep p.2 && pureDs p.1 then popT i j ρ p.1 p.2 else none
/-- xs.pop(..) -/
def sPopX (keep : List Nat) (i : Nat) (dl : DA) : DS := fun ρ S => (dl (fzE keep 0 ρ) S).bind fun p => if chk keep p.2 && pureDs p.1 then popX i ρ p.1 p.2 else none
/-- pop by values -/
def rPopA : V → List V → Hp → VK → Prop := fun x vs H Q => rPop x vs H Q ∨ rPopAt x vs H Q
theorem mt_popA : MtM X "list.pop" rPopA := by
  intro pins s σ H x vs v us Q I rx rv h
  rcases h with h | h
  · exact mt_pop pins s σ H x vs v us Q I rx rv h
  · exact mt_popAt pins s σ H x vs v us Q I rx rv h
theorem pop_run {args ds ds' : List D} {d : D} {xs vs : List V} {a : Addr} {Q : VK} (h : popAt ds args = some (d, ds')) (rs : Reps W args xs) (hH : H a = some (.lst vs)) (r : Reps W ds vs) (k : ∀ y vs', Rep W d y → Reps W ds' vs' → Q y (upd H a (.lst vs'))) : rPopA (.ref a) xs H Q := by
  unfold popAt at h
  split at h
  · simp only [Option.ite_none_right_eq_some] at h
    obtain ⟨⟨b1, b2⟩, h⟩ := h
    obtain ⟨n, h1, h⟩ := bindS h
    obtain ⟨d', h2, h⟩ := mapS h
    cases h
    obtain ⟨x, rfl, q1⟩ := reps1 rs
    cases q1
    obtain ⟨y, h3, h4⟩ := r.get h2
    obtain ⟨p1, p2, p3, p4⟩ := ixN_seq h1
    exact .inr ⟨a, vs, _, n, y, rfl, rfl, hH, by omega, by omega, by rw [r.length]; exact p1, h3, k y _ h4 (r.eraseIdx n)⟩
  · obtain ⟨d', h2, h⟩ := mapS h
    cases h
    obtain rfl : xs = [] := rs
    obtain ⟨y, h3, h4⟩ := r.get h2
    exact .inl ⟨a, vs, y, rfl, rfl, hH, by rw [r.length]; exact h3, k y _ h4 r.dropLast⟩
  · cases h
theorem popT_of [XW] (keep : List Nat) {i j : Nat} {st : Stmt} (h : PS X st (tAsg (tBM X.KW "list" rPopA (tVar i) (liftA X.KW dl)) (gName j))) : PS' X st (sPopT keep i j dl) := PS.imp h fun D σ H => by
  rintro ⟨W0, W, ρ, S, o, R, h, k⟩
  obtain ⟨⟨as, S1⟩, e1, h⟩ := bindS h
  simp only [Option.ite_none_right_eq_some, Bool.and_eq_true] at h
  obtain ⟨⟨hS, hp⟩, h⟩ := h
  unfold popT at h
  split at h
  · rename_i ds q
    obtain ⟨⟨d, ds'⟩, h1, h⟩ := mapS h
    cases h
    obtain ⟨a, vs, q1, q2⟩ := own_slot R q
    refine ⟨_, q1, .inl ⟨rfl, _, SqL.of q2⟩, evAP R e1 hS fun W1 xs H1 l R1 r1 => ?_⟩
    obtain ⟨a', vs', p1, p2, p3, _⟩ := R1.own i ds q
    rw [q1] at p1
    cases p1
    exact pop_run h1 (r1 hp) p2 p3 fun y vs' ry rs => k W1 _ _ l ((R1.upd q q1 rs).set j ry)
  · cases h
theorem dps_popX [XW] (keep : List Nat) {i : Nat} {c : Expr} (h : PE X c (tBM X.KW "list" rPopA (tVar i) (liftA X.KW dl))) (hs : swapsWith c none pos.line X.env = pure false := by rfl) : PS' X (.Expr c pos) (sPopX keep i dl) := PS.imp (ps_expr h hs) fun D σ H => by
  rintro ⟨W0, W, ρ, S, o, R, h, k⟩
  obtain ⟨⟨as, S1⟩, e1, h⟩ := bindS h
  simp only [Option.ite_none_right_eq_some, Bool.and_eq_true] at h
  obtain ⟨⟨hS, hp⟩, h⟩ := h
  unfold popX at h
  split at h
  · rename_i ds q
    obtain ⟨⟨d, ds'⟩, h1, h⟩ := mapS h
    cases h
    obtain ⟨a, vs, q1, q2⟩ := own_slot R q
    refine ⟨_, q1, .inl ⟨rfl, _, SqL.of q2⟩, evAP R e1 hS fun W1 xs H1 l R1 r1 => ?_⟩
    obtain ⟨a', vs', p1, p2, p3, _⟩ := R1.own i ds q
    rw [q1] at p1
    cases p1
    exact pop_run h1 (r1 hp) p2 p3 fun y vs' ry rs => k W1 _ _ l (R1.upd q q1 rs)
  · cases h
theorem popA_rule {i : Nat} {apos cpos : Pos} (ho : PE X o (tVar i)) (ha : PA' X (e :: es) dl) (hbase : attributeBase o "pop" X.env (eval o X.env) = eval o X.env := by rfl)
    (hfew : ((backTo cpos (starEach (e :: es) X.env)).all (fun x => !x.1) && (backToKw cpos (keywordEach [] X.env)).all (fun x => x.1.isSome)
      && decide ((e :: es).length + ([] : List Keyword).length + (if ([] : List Keyword).isEmpty then 0 else 1) < 30)) = true := by rfl)
    (hline : (apos.endLine == cpos.line) = true := by rfl) (hs : starEach (e :: es) X.env = (false, eval e X.env) :: starEach es X.env := by rfl) (hplain : (backTo cpos (starEach es X.env)).any (·.1) = false := by rfl) :
    PE X (.Call (.Attribute o "pop" apos) (e :: es) [] cpos) (tBM X.KW "list" rPopA (tVar i) (liftA X.KW dl)) :=
  pe_bm PySem.F.plainAttrs_list PySem.F.slot_list_pop PySem.F.type_list_pop mt_popA ho ha hbase hfew hline hs hplain
/-! pop(i) of a shared list -/
def dPopI (d : DE) (dl : DA) : DE := fun ρ S => (d ρ S).bind fun p => match p.1 with
  | .ref i => (dl ρ p.2).bind fun q => (q.2[i]?).bind fun ds => (popAt ds q.1).map fun r => (r.1, q.2.set i r.2)
  | _ => none
theorem popI_rule {apos cpos : Pos} (ho : PE' X o da) (ha : PA' X (e :: es) dl) (hbase : attributeBase o "pop" X.env (eval o X.env) = eval o X.env := by rfl)
    (hfew : ((backTo cpos (starEach (e :: es) X.env)).all (fun x => !x.1) && (backToKw cpos (keywordEach [] X.env)).all (fun x => x.1.isSome)
      && decide ((e :: es).length + ([] : List Keyword).length + (if ([] : List Keyword).isEmpty then 0 else 1) < 30)) = true := by rfl)
    (hline : (apos.endLine == cpos.line) = true := by rfl) (hs : starEach (e :: es) X.env = (false, eval e X.env) :: starEach es X.env := by rfl) (hplain : (backTo cpos (starEach es X.env)).any (·.1) = false := by rfl) :
    PE' X (.Call (.Attribute o "pop" apos) (e :: es) [] cpos) (dPopI da dl) := PE.imp (pe_bm PySem.F.plainAttrs_list PySem.F.slot_list_pop PySem.F.type_list_pop mt_popA ho ha hbase hfew hline hs hplain) fun σ H Q => by
  rintro ⟨W, ρ, S, r, S', R, hd, k⟩
  obtain ⟨⟨x, S1⟩, e1, hd⟩ := bindS hd
  cases x <;> simp only [reduceCtorEq] at hd
  rename_i i
  obtain ⟨⟨as, S2⟩, e2, hd⟩ := bindS hd
  obtain ⟨ds, h1, hd⟩ := bindS hd
  obtain ⟨⟨d, ds'⟩, h2, hd⟩ := mapS hd
  cases hd
  refine ⟨W, ρ, S, _, S1, R, e1, fun W1 v H1 s1 R1 r1 => ?_⟩
  obtain ⟨a, ha, rfl⟩ := r1
  have hex : ∃ ds0, S1[i]? = some ds0 := ⟨S1[i]'(by rw [← R1.base.len]; exact (List.getElem?_eq_some_iff.mp ha).1), List.getElem?_eq_getElem _⟩
  obtain ⟨ds0, h0⟩ := hex
  obtain ⟨a0, vs0, k1, k2, _⟩ := R1.base.sh i ds0 h0
  rw [ha] at k1; cases k1
  refine ⟨.inl ⟨rfl, _, SqL.of k2⟩, W1, ρ, S1, as, S2, R1, e2, fun W2 xs H2 s2 R2 r2 => ?_⟩
  have ha2 := s2.le.m _ _ ha
  obtain ⟨a', vs, p1, p2, p3⟩ := R2.base.sh i ds h1
  rw [ha2] at p1; cases p1
  refine pop_run h2 r2 p2 p3 fun y vs' ry rs => ?_
  obtain ⟨B', s'⟩ := R2.base.setSh (List.getElem?_eq_some_iff.mp h1).1 ha2 rs
  exact k W2 y _ ((s1.trans s2).trans s') ⟨B', R2.env⟩ ry
end
end DL


/-! DL31: str of an int, reversed, index, the shared lists that a def drops -/
namespace DL
open PySem L2 PyProof.Rows
section
variable {X : Cx} {W0 W W1 : Wd} {S S1 : Sh} {σ : L2.St} {H H1 : Hp} {keep : List Nat} {dl : DA} {a b e o tg : Expr} {es : List Expr} {pos : Pos} {da db : DE} {dn it : DN} {ρ : Env2}
def strO : List D → Option D
  | [.int i] => if i.natAbs.log2 < 1920 then some (.str (toString i)) else none
  | _ => none
theorem cd_str : CallR X (.type "str") (rDc X.KW strO) := by
  intro pins s σ H xs us Q I r ⟨W, S, ds, z, B, q, hd, k⟩
  unfold strO at hd
  split at hd
  · simp only [Option.ite_none_right_eq_some, Option.some.injEq] at hd
    obtain ⟨h1, rfl⟩ := hd
    obtain ⟨v, rfl, rv⟩ := reps1 q
    cases rv
    exact call_str_int pins s σ H _ us Q I r ⟨_, rfl, h1, k W _ H (.refl _ _) B rfl⟩
  · cases hd
/-! reversed -/
def iRev (d : DE) : DN := fun ρ S => (d ρ S).bind fun p => (seqD p.1).map fun ds => (ds.reverse, p.2)
theorem Reps.get_rev {W : Wd} {ds : List D} {vs : List V} {i : Nat} {d : D} (h : Reps W ds vs) (e : ds.reverse[i]? = some d) : i < vs.length ∧ ∃ v, vs[vs.length - 1 - i]? = some v ∧ Rep W d v := by
  have l := h.length
  have hi : i < ds.length := by simpa using (List.getElem?_eq_some_iff.mp e).1
  rw [List.getElem?_reverse hi] at e
  obtain ⟨v, h1, h2⟩ := h.get e
  exact ⟨by omega, v, by rw [l]; exact h1, h2⟩
theorem walk_rev {K : Fr} {W : Wd} {a : Addr} {ds : List D} {vs : List V} (h : ∀ W' S' H', Le W W' → Base K W' S' H' → SqL K H' a vs) (r : Reps W ds vs) : Walk K W (Itv K a vs.length) ds.reverse := fun i W' S' H' l B => by
  have hs := h W' S' H' l B
  refine ⟨fun d hd => ?_, fun hd => ?_⟩
  · obtain ⟨hi, v, h1, h2⟩ := r.get_rev hd
    refine ⟨⟨hi, vs, v, hs, h1⟩, fun x H3 y => ?_⟩
    obtain ⟨rfl, y⟩ := y
    have := y vs hs
    rw [h1] at this
    cases this
    exact ⟨W', .refl _ _, B, h2.mono l⟩
  · show vs.length ≤ i
    rw [r.length]
    simpa using List.getElem?_eq_none_iff.mp hd
theorem walk_revT {K : Fr} {W : Wd} {a : Addr} {ds : List D} {vs : List V} (h : ∀ W' S' H', Le W W' → Base K W' S' H' → SqT K H' a vs) (r : Reps W ds vs) : Walk K W (RT.ItvT K a vs.length) ds.reverse := fun i W' S' H' l B => by
  have hs := h W' S' H' l B
  refine ⟨fun d hd => ?_, fun hd => ?_⟩
  · obtain ⟨hi, v, h1, h2⟩ := r.get_rev hd
    refine ⟨⟨hi, vs, v, hs, h1⟩, fun x H3 y => ?_⟩
    obtain ⟨rfl, y⟩ := y
    have := y vs hs
    rw [h1] at this
    cases this
    exact ⟨W', .refl _ _, B, h2.mono l⟩
  · show vs.length ≤ i
    rw [r.length]
    simpa using List.getElem?_eq_none_iff.mp hd
theorem dpi_rev {p : Pos} (hg : Gl X "reversed") (hm : X.mg "reversed" = none) (he : PE' X e da) (hs : starEach [e] X.env = (false, eval e X.env) :: starEach [] X.env := by rfl) : PI' X tg (.Call (.Name "reversed" p) [e] [] pos) (iRev da) := ⟨fun pins s σ H R I h => by
  obtain ⟨W, ρ, S, ds, S', R', hd, k⟩ := h
  obtain ⟨⟨r, S1⟩, e1, hd⟩ := bindS hd
  obtain ⟨ds', e2, hd⟩ := mapS hd
  cases hd
  refine (RT.pi_revA hg hm he hs).run pins s σ H R I ⟨W, ρ, S, _, _, R', e1, fun W1 v H1 s1 R1 r1 => ?_⟩
  cases r with
  | lst xs =>
    cases e2
    obtain ⟨a, vs, rfl, t, q⟩ := r1
    exact ⟨a, vs, rfl, .inl ⟨SqL.of (R1.base.lst t), k W1 H1 _ s1 R1 (walk_rev (fun W' S' H' l B => SqL.of (B.lst (l.T _ _ t))) q)⟩⟩
  | rol xs =>
    cases e2
    obtain ⟨a, vs, rfl, t, q⟩ := r1
    exact ⟨a, vs, rfl, .inl ⟨(R1.base.sa.2 a vs t).seq, k W1 H1 _ s1 R1 (walk_rev (fun W' S' H' l B => (B.sa.2 a vs (l.sc.trans t)).seq) q)⟩⟩
  | tup xs =>
    cases e2
    obtain ⟨a, vs, rfl, t, q⟩ := r1
    exact ⟨a, vs, rfl, .inr ⟨R1.base.tup t, k W1 H1 _ s1 R1 (walk_revT (fun W' S' H' l B => B.tup (l.T _ _ t)) q)⟩⟩
  | _ => cases e2⟩
def tTupRevZ (K : Fr) (te : TE) : TE := fun σ H Q => te σ H fun v H1 => ∃ (a : Addr) (xs : List V), v = .ref a ∧ SqL K H1 a xs ∧ ∀ q its, H1 q = none → Q (.ref q) (upd H1 q (.frz (tupOb its) (.tup xs.reverse)))
theorem pe_tupRevZ {te : TE} {p p2 pos pos2 : Pos} (hc : X.calm = true) (hg : Gl X "tuple") (hm : X.mg "tuple" = none) (hg2 : Gl X "reversed") (hm2 : X.mg "reversed" = none) (he : PE X e te)
    (hs : starEach [e] X.env = (false, eval e X.env) :: starEach [] X.env := by rfl)
    (hs2 : starEach [.Call (.Name "reversed" p2) [e] [] pos2] X.env = (false, eval (.Call (.Name "reversed" p2) [e] [] pos2) X.env) :: starEach [] X.env := by rfl) :
    PE X (.Call (.Name "tuple" p) [.Call (.Name "reversed" p2) [e] [] pos2] [] pos) (tTupRevZ X.KW te) := by
  refine ⟨fun pins s σ H Q I h => ?_⟩
  refine Call_ (ld_blt I hg hm boot_tuple (PyProof.Rows.callWith_type1 (args_cons (Call_ (ld_blt I hg2 hm2 PyProof.Rows.boot_reversed (PyProof.Rows.callWith_type1 (args_cons (thn (he.run pins s σ H _ I h) fun u s1 ⟨v, H1, I1, r1, q1⟩ => args_nil ?_) hs) hs rfl))) hs2) hs2 rfl))
  obtain ⟨a, xs, ev, hq, q⟩ := q1
  subst ev
  obtain rfl : u = Value.ref a := r1
  obtain ⟨its, rv, p', hz⟩ := I1.list hq
  refine call_reversed_list p'.isList (args_nil ?_)
  have k0 : ∀ b o, s1.heap.get? b = some o → (s1.heap.push (revObj a ((its.toArray.size : Int) - 1))).get? b = some o := fun b o e => Heap.get?_push_of_some _ e
  have I2 : Inv X pins σ H1 { s1 with heap := s1.heap.push (revObj a ((its.toArray.size : Int) - 1)) } := I1.kept (t' := s1.toks) k0
  obtain ⟨f0, f1, f2, f3, f4, f5⟩ := I1.fpOk (H' := H1) (b := s1.heap.objs.size) (Nat.le_refl _) (I1.hok.fresh (Nat.le_refl _))
  have hl := p'.isList
  obtain ⟨ol, hol, _⟩ := id hl
  have hne : a ≠ s1.heap.objs.size := Nat.ne_of_lt (Heap.lt_size hol)
  have hn : its.toArray.size ≤ sizeLine := by rw [List.size_toArray, ← rv.length]; exact hz
  refine RT.call_tuple_rev (s := { s1 with heap := s1.heap.push (revObj a ((its.toArray.size : Int) - 1)) }) (I1.ok.hd hc) ⟨_, Heap.get?_push_size _ rfl, rfl, rfl⟩ (hl.push _) hne hn fun h' tk acc hk hi => ?_
  have I3 : Inv X pins σ H1 { s1 with heap := h', toks := tk } := I2.turned (t' := tk) (fun b o hb e => hk b o hb e) f0 f1 f3 f4 f5
  refine ⟨.ref h'.objs.size, upd H1 h'.objs.size (.frz (tupOb acc.toList) (.tup xs.reverse)), I3.laid (t' := tk) (fun c o e => Heap.get?_push_of_some _ e) (Nat.le_refl _) (tupOb_ok (by rw [Array.toArray_toList]; exact Heap.get?_push_size _ rfl) (by rw [List.length_reverse]; exact hz) (RT.vals_rev rv hi)), rfl, q _ _ (I3.hok.fresh (Nat.le_refl _))⟩
/-- tuple(reversed(xs)) -/
def dTupRev (d : DE) : DE := fun ρ S => (d ρ S).bind fun p => (lstD p.1).map fun ds => (.tup ds.reverse, p.2)
theorem dpe_tupRev {p p2 pos2 : Pos} (hc : X.calm = true) (hm : X.mg "tuple" = none) (hm2 : X.mg "reversed" = none) (he : PE' X e da) (hg : Gl X "tuple" := by rfl) (hg2 : Gl X "reversed" := by rfl)
    (hs : starEach [e] X.env = (false, eval e X.env) :: starEach [] X.env := by rfl)
    (hs2 : starEach [.Call (.Name "reversed" p2) [e] [] pos2] X.env = (false, eval (.Call (.Name "reversed" p2) [e] [] pos2) X.env) :: starEach [] X.env := by rfl) :
    PE' X (.Call (.Name "tuple" p) [.Call (.Name "reversed" p2) [e] [] pos2] [] pos) (dTupRev da) := PE.imp (pe_tupRevZ hc hg hm hg2 hm2 he hs hs2) fun σ H Q => by
  rintro ⟨W, ρ, S, r, S', R, hd, k⟩
  obtain ⟨⟨x, S1⟩, e1, hd⟩ := bindS hd
  obtain ⟨ds, e2, hd⟩ := mapS hd
  cases hd
  refine ⟨W, ρ, S, _, _, R, e1, fun W1 v H1 s1 R1 r1 => ?_⟩
  obtain ⟨a, vs, rfl, h3, h4⟩ := R1.base.lst_seq r1 e2
  refine ⟨a, vs, rfl, h3, fun p its hp => ?_⟩
  obtain ⟨W', s', B', t', _⟩ := R1.base.laidT (x := tupOb its) (vs := vs.reverse) hp rfl
  exact k W' _ _ (s1.trans s') ⟨B', R1.env.mono s'.le⟩ ⟨p, _, rfl, t', h4.reverse.mono s'.le _⟩
/-! ### what a def drops -/
mutual
def plainD : D → Bool
  | .non => true
  | .bl _ => true
  | .int _ => true
  | .str _ => true
  | .tup ds => plainDs ds
  | .lst ds => plainDs ds
  | .rol ds => plainDs ds
  | _ => false
def plainDs : List D → Bool
  | [] => true
  | d :: ds => plainD d && plainDs ds
end
def plainSh : Sh → Bool
  | [] => true
  | ds :: r => plainDs ds && plainSh r
mutual
theorem Rep.plain {W W' : Wd} (ht : W'.T = W.T) (hs : W'.sa = W.sa) : ∀ (d : D) {v : V}, plainD d = true → Rep W d v → Rep W' d v
  | .non, _, _, h => h
  | .bl _, _, _, h => h
  | .int _, _, _, h => h
  | .str _, _, _, h => h
  | .ref i, _, p, _ => by simp [plainD] at p
  | .tup ds, _, p, h => by
    obtain ⟨a, vs, h1, h2, h3⟩ := h
    exact ⟨a, vs, h1, by rw [ht]; exact h2, Reps.plain ht hs ds (by simpa [plainD] using p) h3⟩
  | .lst ds, _, p, h => by
    obtain ⟨a, vs, h1, h2, h3⟩ := h
    exact ⟨a, vs, h1, by rw [ht]; exact h2, Reps.plain ht hs ds (by simpa [plainD] using p) h3⟩
  | .rol ds, _, p, h => by
    obtain ⟨a, vs, h1, h2, h3⟩ := h
    exact ⟨a, vs, h1, hs.trans h2, Reps.plain ht hs ds (by simpa [plainD] using p) h3⟩
  | .dcu _ _, _, p, h => by simp [plainD] at p
  | .dct _ _, _, p, h => by simp [plainD] at p
theorem Reps.plain {W W' : Wd} (ht : W'.T = W.T) (hs : W'.sa = W.sa) : ∀ (ds : List D) {vs : List V}, plainDs ds = true → Reps W ds vs → Reps W' ds vs
  | [], _, _, h => h
  | d :: ds, _, p, h => by
    obtain ⟨v, r, h1, h2, h3⟩ := h
    rw [plainDs, Bool.and_eq_true] at p
    exact ⟨v, r, h1, Rep.plain ht hs d p.1 h2, Reps.plain ht hs ds p.2 h3⟩
end
theorem plainSh_get : ∀ {S : Sh} {i : Nat} {ds : List D}, plainSh S = true → S[i]? = some ds → plainDs ds = true
  | [], _, _, _, e => by simp at e
  | x :: xs, 0, _, h, e => by
    rw [plainSh, Bool.and_eq_true] at h
    simp at e; subst e
    exact h.1
  | x :: xs, i + 1, _, h, e => by
    rw [plainSh, Bool.and_eq_true] at h
    exact plainSh_get h.2 (by simpa using e)
/-- the shared lists that came in are left, the others are dropped -/
def fnDd (np n : Nat) (body : DS) : DF := fun args S => (fnD np n body args S).bind fun p => if plainD p.1 && plainSh (p.2.take S.length) then some (p.1, p.2.take S.length) else none
theorem take_m {α : Type} {l l' : List α} (h : ∀ (i : Nat) x, l[i]? = some x → l'[i]? = some x) : l'.take l.length = l := by
  apply List.ext_getElem?
  intro i
  rw [List.getElem?_take]
  by_cases hi : i < l.length
  · rw [if_pos hi, h i _ (List.getElem?_eq_getElem hi), List.getElem?_eq_getElem hi]
  · rw [if_neg hi, List.getElem?_eq_none (by omega)]
theorem Base.cut {K : Fr} {W W' : Wd} {S S' : Sh} {H H' : Hp} (B0 : Base K W S H) (B : Base K W' S' H') (st : Stp W W' H H') (hp : plainSh (S'.take S.length) = true) :
    Base K { W' with m := W.m } (S'.take S.length) H' ∧ Stp W { W' with m := W.m } H H' := by
  have hm : W'.m.take W.m.length = W.m := take_m st.le.m
  have hl : W.m.length ≤ W'.m.length := by
    have := congrArg List.length hm
    rw [List.length_take] at this
    omega
  have sub : ∀ a, a ∈ W.m → a ∈ W'.m := fun a h => List.mem_of_mem_take (by rw [hm]; exact h)
  refine ⟨⟨B.fro, ?_, fun i ds h => ?_, B0.nod, fun a h => B.apart a (sub a h), B.sa⟩, ⟨⟨fun _ _ h => h, st.le.T, st.le.sa⟩, st.keep, fun b h => .inl h, st.ex, st.newT⟩⟩
  · show W.m.length = _
    rw [List.length_take, ← B.len, ← B0.len]
    omega
  · have hi : i < S.length := by
      have := (List.getElem?_eq_some_iff.mp h).1
      rw [List.length_take] at this
      omega
    have h' := h
    rw [List.getElem?_take, if_pos hi] at h'
    obtain ⟨a, vs, h1, h2, h3⟩ := B.sh i ds h'
    refine ⟨a, vs, ?_, h2, Reps.plain (W := W') (W' := { W' with m := W.m }) rfl rfl ds (plainSh_get hp h) h3⟩
    rw [← hm, List.getElem?_take, if_pos (by rw [B0.len]; exact hi)]
    exact h1
theorem Callee.drop {P : Program} {w : World} {K : Fr} {mg : Str → Option Value} {base : Heap} {x : Str} {k : Nat} {ps : List Str} {np n : Nat} {body : DS} (h : Callee P w K mg base x k ps (spD K np (fnD np n body))) : Callee P w K mg base x k ps (spD K np (fnDd np n body)) := by
  obtain ⟨f, fd, h1, h2⟩ := h.ex
  refine ⟨f, fd, h1.imp fun vs H Q E h => ?_, h2⟩
  obtain ⟨W, S, ds, r, S', B, q, l, e, k⟩ := h
  obtain ⟨⟨d, S2⟩, e1, e⟩ := bindS e
  simp only [Option.ite_none_right_eq_some, Bool.and_eq_true] at e
  obtain ⟨⟨p1, p2⟩, e⟩ := e
  cases e
  refine ⟨W, S, ds, r, S2, B, q, l, e1, fun W' v H' st B' r' => ?_⟩
  obtain ⟨B2, s2⟩ := B.cut B' st p2
  exact k _ v H' s2 B2 (Rep.plain (W := W') (W' := { W' with m := W.m }) rfl rfl r p1 r')
/-! ### index -/
mutual
theorem Rep.dp {K : Fr} (B : Base K W S H) : ∀ (n : Nat) (d : D) {v : V}, eqOk n d = true → Rep W d v → Dp K H v (pd d)
  | _, .non, _, _, h => by
    obtain rfl : _ = V.non := h
    exact .non
  | _, .bl b, _, _, h => by
    obtain rfl : _ = V.bl b := h
    exact .bl b
  | _, .int b, _, _, h => by
    obtain rfl : _ = V.int b := h
    exact .int b
  | _, .str b, _, _, h => by
    obtain rfl : _ = V.str b := h
    exact .str b
  | 0, .tup ds, _, o, _ => by simp [eqOk] at o
  | n + 1, .tup ds, _, o, h => by
    obtain ⟨a, vs, rfl, h2, h3⟩ := h
    exact .tup (B.tup h2) (Reps.dp B n ds (by simpa [eqOk] using o) h3)
  | 0, .lst ds, _, o, _ => by simp [eqOk] at o
  | n + 1, .lst ds, _, o, h => by
    obtain ⟨a, vs, rfl, h2, h3⟩ := h
    exact .lst (SqL.of (B.lst h2)) (Reps.dp B n ds (by simpa [eqOk] using o) h3)
  | _, .rol ds, _, h, _ => by simp [eqOk] at h
  | _, .ref ds, _, h, _ => by simp [eqOk] at h
  | _, .dcu ds es, _, h, _ => by simp [eqOk] at h
  | _, .dct ds es, _, h, _ => by simp [eqOk] at h
theorem Reps.dp {K : Fr} (B : Base K W S H) : ∀ (n : Nat) (ds : List D) {vs : List V}, eqOks n ds = true → Reps W ds vs → DpAll K H vs (pds ds)
  | _, [], _, _, h => by
    obtain rfl : _ = [] := h
    exact .nil
  | n, d :: ds, _, o, h => by
    obtain ⟨v, r, rfl, h1, h2⟩ := h
    rw [eqOks, Bool.and_eq_true] at o
    exact .cons (Rep.dp B n d o.1 h1) (Reps.dp B n ds o.2 h2)
end
end
end DL


/-! DL32: the place of an item in a list or a tuple -/
namespace DL
open PySem L2 PyProof.Rows
section
variable {X : Cx} {e o : Expr} {es : List Expr} {pos : Pos} {da : DE} {dl : DA}
theorem pick_at {W : Wd} {ds : List D} {vs : List V} {us : List Value} (n : Nat) (dx : D) (hr : Reps W ds vs) (hv : Vals vs us) (ok : eqOks n ds = true) :
    ∃ f : Value → Bool, (∀ u, u ∈ us → ∃ z x, z ∈ ds ∧ Rep W z x ∧ RelV x u ∧ f u = eqD z dx) ∧ ∀ (j : Nat) (h : j < us.length) (h' : j < ds.length), f us[j] = eqD ds[j] dx := by
  obtain ⟨f, f1, _⟩ := pick_eq n dx hr hv ok
  refine ⟨f, f1, fun j h h' => ?_⟩
  obtain ⟨z, x, m1, m2, m3, m4⟩ := f1 us[j] (List.getElem_mem h)
  obtain ⟨x', p1, p2⟩ := hr.vals hv h
  rw [List.getD_eq_getElem?_getD, List.getElem?_eq_getElem h'] at p1
  have p1' : Rep W ds[j] x' := p1
  obtain ⟨i, hi⟩ := List.getElem?_of_mem m1
  rw [m3.inj p2] at m2
  rw [m4, Rep.inj n _ _ (eqOks_get ok hi) (eqOks_get (i := j) ok (List.getElem?_eq_getElem h')) m2 p1']
def rIx (K : Fr) (tup : Bool) : V → List V → Hp → VK → Prop := fun x xs H Q => ∃ W S p vs ds dx y j, Base K W S H ∧ x = .ref p ∧ (if tup then SqT K H p vs else SqL K H p vs) ∧ Reps W ds vs ∧ xs = [y] ∧ Rep W dx y ∧ eqOks 60 ds = true ∧ eqOk 60 dx = true ∧
  ds.findIdx? (fun z => eqD z dx) = some j ∧ Q (.int (j : Nat)) H
theorem mt_ixT (hu : X.A.units + 64 < cLine) : MtR X "tuple.index" (rIx X.KW true) := by
  intro pins s σ H x xs v us Q I rx rxs ⟨W, S, p, vs, ds, dx, y, j, B, hx, hq, hr, hxs, ry, ok, okx, hf, q⟩
  subst hx
  subst hxs
  cases rx
  cases rxs with
  | cons rv rt =>
    rename_i uy ut
    cases rt
    rw [if_pos rfl] at hq
    obtain ⟨its, rr, pl, hlen⟩ := I.tuple hq
    obtain ⟨⟨cls, dd, dt, sl⟩, ho, hc, n, hd⟩ := pl
    simp only at hc hd
    subst hc
    subst hd
    obtain ⟨f, f1, f2⟩ := pick_at 60 dx hr rr ok
    have l1 := hr.length
    have l2 := rr.length
    obtain ⟨hj, h3, h4⟩ := List.findIdx?_eq_some_iff_getElem.mp hf
    refine call_meets PySem.F.slot_tuple_index ⟨_, ho, rfl⟩ PySem.F.entry_tuple_index (PySem.F.args_tuple_index_2 _ _) (TI.tuple_indexAt p its.toArray n dd sl uy f j (by simp; omega) ?_ ?_) ⟨ho, fun w hw => ?_, ⟨.int (j : Nat), H, I.tok _, ⟨_, rfl⟩, q⟩⟩
    · have := f2 j (by omega) hj
      simpa using this.trans h3
    · intro m hm hmj
      have := f2 m (by omega) (by omega)
      have h5 := h4 m hmj
      simp only [Bool.not_eq_true] at h5
      simpa using this.trans h5
    · obtain ⟨z, xz, m1, m2, m3, m4⟩ := f1 w (by simpa using hw)
      rw [m4]
      obtain ⟨i, hi⟩ := List.getElem?_of_mem m1
      exact (eq_rc I B 60 z dx X.A.in1 xz y w uy (eqOks_get ok hi) okx (by rw [in1_units]; omega) m2 ry m3 rv).1
theorem mt_ixL (hu : X.A.units + 64 < cLine) : MtR X "list.index" (rIx X.KW false) := by
  intro pins s σ H x xs v us Q I rx rxs ⟨W, S, p, vs, ds, dx, y, j, B, hx, hq, hr, hxs, ry, ok, okx, hf, q⟩
  subst hx
  subst hxs
  cases rx
  cases rxs with
  | cons rv rt =>
    rename_i uy ut
    cases rt
    rw [if_neg Bool.false_ne_true] at hq
    obtain ⟨its, rr, ⟨⟨cls, dd, dt, sl⟩, n, ho, hc, hdn, hd⟩, hlen⟩ := I.list hq
    simp only at hc hd
    subst hc
    subst hd
    obtain ⟨f, f1, f2⟩ := pick_at 60 dx hr rr ok
    have l1 := hr.length
    have l2 := rr.length
    have hsl := sizeLine_eq
    obtain ⟨hj, h3, h4⟩ := List.findIdx?_eq_some_iff_getElem.mp hf
    refine call_meets PySem.F.slot_list_index ⟨_, ho, rfl⟩ PySem.F.entry_list_index (PySem.F.args_list_index_2 _ _) (SeqAt.list_indexAt p its.toArray n dd sl uy f j (by simp; omega) (by omega) ?_ ?_) ⟨ho, fun w hw => ?_, ⟨.int (j : Nat), H, I.tok _, ⟨_, rfl⟩, q⟩⟩
    · have := f2 j (by omega) hj
      simpa using this.trans h3
    · intro m hm hmj
      have := f2 m (by omega) (by omega)
      have h5 := h4 m hmj
      simp only [Bool.not_eq_true] at h5
      simpa using this.trans h5
    · obtain ⟨z, xz, m1, m2, m3, m4⟩ := f1 w (by simpa using hw)
      rw [m4]
      obtain ⟨i, hi⟩ := List.getElem?_of_mem m1
      exact (eq_rc I B 60 z dx X.A.in1 xz y w uy (eqOks_get ok hi) okx (by rw [in1_units]; omega) m2 ry m3 rv).1
/-! the call -/
def tIx (K : Fr) (to : TE) (t : TA) : TE := fun σ H Q => to σ H fun x H1 => ∃ p, x = .ref p ∧ (((∃ vs, SqL K H1 p vs) ∧ t σ H1 fun xs H2 => rIx K false x xs H2 Q) ∨ ((∃ (ob : Obj) (vs : List V), ob.dict = none ∧ H1 p = some (.frz ob (.tup vs))) ∧ t σ H1 fun xs H2 => rIx K true x xs H2 Q))
theorem pe_ix (hu : X.A.units + 64 < cLine) {to : TE} {t : TA} {apos cpos : Pos} (ho : PE X o to) (ha : PA X (e :: es) t) (hbase : attributeBase o "index" X.env (eval o X.env) = eval o X.env := by rfl)
    (hfew : ((backTo cpos (starEach (e :: es) X.env)).all (fun x => !x.1) && (backToKw cpos (keywordEach [] X.env)).all (fun x => x.1.isSome)
      && decide ((e :: es).length + ([] : List Keyword).length + (if ([] : List Keyword).isEmpty then 0 else 1) < 30)) = true := by rfl)
    (hline : (apos.endLine == cpos.line) = true := by rfl) (hs : starEach (e :: es) X.env = (false, eval e X.env) :: starEach es X.env := by rfl) (hplain : (backTo cpos (starEach es X.env)).any (·.1) = false := by rfl) :
    PE X (.Call (.Attribute o "index" apos) (e :: es) [] cpos) (tIx X.KW to t) := by
  refine ⟨fun pins s σ H Q I h => ?_⟩
  refine wpAny_Call_method_late hbase hfew hline rfl (thn (ho.run pins s σ H _ I h) fun v s1 ⟨x, H1, I1, r1, p, hx, q1⟩ => ?_)
  subst hx
  cases r1
  rcases q1 with ⟨⟨vs, hq⟩, q1⟩ | ⟨⟨ob, vs, hd, hq⟩, q1⟩
  · obtain ⟨its, _, pl, _⟩ := I1.list hq
    refine ⟨"list", "list.index", PySem.F.plainAttrs_list, PySem.F.slot_list_index, PySem.F.type_list_index, pl.isList.typeIs, fun a e => ?_, ?_⟩
    · cases e
      obtain ⟨o, n, e, c, hd, _⟩ := pl
      exact ⟨o, e, hd⟩
    · have hA := ha.run cpos pins s1 σ H1 _ I1 q1
      rw [hs] at hA ⊢
      refine Calls.callWith_builtin (by show (false || (backTo cpos (starEach es X.env)).any (·.1)) = false; rw [hplain] <;> rfl) (Calls.evalArgs_plain ?_)
      exact thn hA fun us s2 ⟨vs, H2, I2, r2, q2⟩ => mt_ixL hu pins s2 σ H2 (.ref p) vs _ us Q I2 rfl r2 q2
  · obtain ⟨e1, e2⟩ : ObjOk X.prog X.w H1 s1.heap p (.frz ob (.tup vs)) := I1.hok p _ hq
    obtain ⟨its, _, pl, _⟩ := I1.tuple (.inl (.inr ⟨ob, hq⟩) : SqT X.KW H1 p vs)
    refine ⟨"tuple", "tuple.index", PySem.F.plainAttrs_tuple, PySem.F.slot_tuple_index, PySem.F.type_tuple_index, pl.typeIs, fun a e => ?_, ?_⟩
    · cases e
      exact ⟨ob, e1, hd⟩
    · have hA := ha.run cpos pins s1 σ H1 _ I1 q1
      rw [hs] at hA ⊢
      refine Calls.callWith_builtin (by show (false || (backTo cpos (starEach es X.env)).any (·.1)) = false; rw [hplain] <;> rfl) (Calls.evalArgs_plain ?_)
      exact thn hA fun us s2 ⟨vs, H2, I2, r2, q2⟩ => mt_ixT hu pins s2 σ H2 (.ref p) vs _ us Q I2 rfl r2 q2
def ixO (ds : List D) : List D → Option D
  | [x] => if eqOks 60 ds = true ∧ eqOk 60 x = true then (ds.findIdx? fun z => eqD z x).map fun (j : Nat) => .int j else none
  | _ => none
def dIndex (d : DE) (dl : DA) : DE := fun ρ S => (d ρ S).bind fun p => (seqD p.1).bind fun ds => (dl ρ p.2).bind fun q => (ixO ds q.1).map fun z => (z, q.2)
theorem ixO_inv {ds as : List D} {r : D} (h : ixO ds as = some r) : ∃ x j, as = [x] ∧ eqOks 60 ds = true ∧ eqOk 60 x = true ∧ ds.findIdx? (fun z => eqD z x) = some j ∧ r = .int (j : Nat) := by
  unfold ixO at h
  split at h
  · simp only [Option.ite_none_right_eq_some] at h
    obtain ⟨⟨h1, h2⟩, h⟩ := h
    obtain ⟨j, h3, rfl⟩ := mapS h
    exact ⟨_, j, rfl, h1, h2, h3, rfl⟩
  · cases h
theorem index_rule (hu : X.A.units + 64 < cLine) {apos cpos : Pos} (ho : PE' X o da) (ha : PA' X (e :: es) dl) (hbase : attributeBase o "index" X.env (eval o X.env) = eval o X.env := by rfl)
    (hfew : ((backTo cpos (starEach (e :: es) X.env)).all (fun x => !x.1) && (backToKw cpos (keywordEach [] X.env)).all (fun x => x.1.isSome)
      && decide ((e :: es).length + ([] : List Keyword).length + (if ([] : List Keyword).isEmpty then 0 else 1) < 30)) = true := by rfl)
    (hline : (apos.endLine == cpos.line) = true := by rfl) (hs : starEach (e :: es) X.env = (false, eval e X.env) :: starEach es X.env := by rfl) (hplain : (backTo cpos (starEach es X.env)).any (·.1) = false := by rfl) :
    PE' X (.Call (.Attribute o "index" apos) (e :: es) [] cpos) (dIndex da dl) := PE.imp (pe_ix hu ho ha hbase hfew hline hs hplain) fun σ H Q => by
  rintro ⟨W, ρ, S, r, S', R, hd, k⟩
  obtain ⟨⟨x, S1⟩, e1, hd⟩ := bindS hd
  obtain ⟨ds, e0, hd⟩ := bindS hd
  obtain ⟨⟨as, S2⟩, e2, hd⟩ := bindS hd
  obtain ⟨z, e3, hd⟩ := mapS hd
  cases hd
  obtain ⟨y, j, rfl, ok, okx, hf, rfl⟩ := ixO_inv e3
  refine ⟨W, ρ, S, x, S1, R, e1, fun W1 v H1 s1 R1 r1 => ?_⟩
  by_cases ht : ∃ ys, x = .tup ys
  · obtain ⟨ys, rfl⟩ := ht
    cases e0
    obtain ⟨a, vs, rfl, t, h4⟩ := id r1
    obtain ⟨ob, hd, hz⟩ := R1.base.tupX t
    refine ⟨a, rfl, .inr ⟨⟨ob, vs, hd, hz⟩, W1, ρ, S1, [y], S2, R1, e2, fun W2 xs H2 s2 R2 r2 => ?_⟩⟩
    obtain ⟨u, rfl, ru⟩ := reps1 r2
    exact ⟨W2, _, a, vs, ds, y, u, j, R2.base, rfl, by rw [if_pos rfl]; exact R2.base.tup (s2.le.T _ _ t), h4.mono s2.le, rfl, ru, ok, okx, hf, k W2 _ _ (s1.trans s2) R2 rfl⟩
  · have hl : lstD x = some ds := by
      cases x with
      | tup ys => exact absurd ⟨ys, rfl⟩ ht
      | lst ys => exact e0
      | rol ys => exact e0
      | _ => cases e0
    obtain ⟨a, vs, rfl, h3, h4⟩ := R1.base.lst_seq r1 hl
    refine ⟨a, rfl, .inl ⟨⟨vs, h3⟩, W1, ρ, S1, [y], S2, R1, e2, fun W2 xs H2 s2 R2 r2 => ?_⟩⟩
    obtain ⟨u, rfl, ru⟩ := reps1 r2
    obtain ⟨a', vs', e4, h5, h6⟩ := R2.base.lst_seq (Rep.mono s2.le _ r1) hl
    cases e4
    exact ⟨W2, _, a, vs', ds, y, u, j, R2.base, rfl, by rw [if_neg Bool.false_ne_true]; exact h5, h6, rfl, ru, ok, okx, hf, k W2 _ _ (s1.trans s2) R2 rfl⟩
end
end DL


/-! DL34: sets of ints and texts, made from a list or a tuple, sorted and counted -/
namespace DL
open PySem PySem.Spec PyProof.Rows L2

section
variable {K : Type} [DecidableEq K] [Inhabited K] {P : Program} {w : World} (knd : PySem.KeyKind P w K)
open Classical in
noncomputable def kf (v : Value) : K := if h : ∃ k, knd.is k v = true then h.choose else default
theorem kf_of {k : K} {v : Value} (h : knd.is k v = true) : kf knd v = k := by
  have q : ∃ k, knd.is k v = true := ⟨k, h⟩
  unfold kf
  rw [dif_pos q]
  exact knd.inj v _ _ q.choose_spec h
noncomputable abbrev ek (e : Int × Value) : K := kf knd e.2
/-- the set at a; its keys L in some order -/
def SetG (h : Heap) (a : Addr) (L : List K) : Prop :=
  ∃ o es ep t, h.get? a = some o ∧ o.ExactSet ∧ o.data = .set es ep t ∧ ElemsOf knd es.toList ∧ (es.toList.map (ek knd)).Perm L ∧ L.Nodup ∧
    es.size < scanBound ∧ t.fits es.size = true ∧ Ris t.place.toList ∧ (w.params.followText "set-order" = true ∨ t.led = true)
variable {knd} {h h' : Heap} {a : Addr} {L : List K}
theorem SetG.at (R : SetG knd h a L) (k : ∀ o, h.get? a = some o → h'.get? a = some o) : SetG knd h' a L := by
  obtain ⟨o, es, ep, t, ho, r⟩ := R
  exact ⟨o, es, ep, t, k o ho, r⟩
theorem SetG.lt (R : SetG knd h a L) : a < h.objs.size := by
  obtain ⟨o, es, ep, t, ho, r⟩ := R
  exact Heap.lt_size ho
theorem el_is {l : List (Int × Value)} (g : ElemsOf knd l) {e : Int × Value} (he : e ∈ l) (k : K) : knd.is k e.2 = true ↔ ek knd e = k := by
  obtain ⟨⟨k0, h0, _⟩, _⟩ := g e he
  have e1 : ek knd e = k0 := kf_of knd h0
  constructor
  · intro q; exact kf_of knd q
  · intro q; rw [← q, e1]; exact h0
theorem el_mem {l : List (Int × Value)} (g : ElemsOf knd l) (k : K) : k ∈ l.map (ek knd) ↔ ∃ e ∈ l, knd.is k e.2 = true := by
  rw [List.mem_map]
  constructor
  · rintro ⟨e, he, q⟩
    exact ⟨e, he, (el_is g he k).2 q⟩
  · rintro ⟨e, he, q⟩
    exact ⟨e, he, (el_is g he k).1 q⟩
theorem el_perm {l l' : List (Int × Value)} (g : ElemsOf knd l) (p : l'.Perm l) : ElemsOf knd l' := fun e he => g e (p.mem_iff.mp he)
theorem SetG.size (R : SetG knd h a L) : ∃ o es ep t, h.get? a = some o ∧ o.data = .set es ep t ∧ es.size = L.length ∧ t.fits es.size = true := by
  obtain ⟨o, es, ep, t, ho, hx, hd, g, pm, nd, hb, hf, _⟩ := R
  refine ⟨o, es, ep, t, ho, hd, ?_, hf⟩
  rw [← pm.length_eq, List.length_map, Array.length_toList]
theorem SetG.setOf (R : SetG knd h a L) : h.SetOf knd a (fun k => decide (k ∈ L)) L.length := by
  obtain ⟨o, es, ep, t, ho, hx, hd, g, pm, nd, hb, hf, _⟩ := R
  refine ⟨o, es, ep, t, ho, hx, hd, g, fun k => ?_, hb, hf, ?_⟩
  · rw [decide_eq_true_eq, ← pm.mem_iff]
    exact el_mem g k
  · rw [← pm.length_eq, List.length_map, Array.length_toList]
theorem setG_add_tail {A : Around} {E : Value → Shared → Prop} {s : Shared} {g : Bool → Sem Unit} (hg : ∀ (b : Bool) (s₁ : Shared) (Q' : Unit → Shared → Prop), Q' () s₁ → wpAny (model P w) A (g b) Q' E s₁)
    {o : Obj} {es : Array (Int × Value)} {ep : Nat} {t : SetTable} (ho : s.heap.get? a = some o) (hex : o.ExactSet) (hd : o.data = .set es ep t)
    {es1 : Array (Int × Value)} {t2 : SetTable} {L' : List K} (g1 : ElemsOf knd es1.toList) (pm1 : (es1.toList.map (ek knd)).Perm L') (nd1 : L'.Nodup)
    (hb1 : es1.size < scanBound) (hf2 : t2.fits es1.size = true) (hr : Ris t2.place.toList) (hl : w.params.followText "set-order" = true ∨ t2.led = true) {wasDummy : Bool} {R : Option Bool → Shared → Prop}
    (hR : ∀ h', Heap.SameBut a s.heap h' → SetG knd h' a L' → R (some true) { s with heap := h' }) :
    wpAny (model P w) A (do
        storeSet a es1 t2
        if (!wasDummy && t2.tooFull) = true then do
            g (relayAll t2 es1 (SetTable.grown es1.size)).2.2
            storeSet a (relayAll t2 es1 (SetTable.grown es1.size)).1 (relayAll t2 es1 (SetTable.grown es1.size)).2.1
            pure (some true)
          else pure (some true)) R E s := by
  refine wpAny_bind (wpAny_storeSet_of ho hd ?_ (fits_of_scanBound hb1))
  have ho1 := store_at (es' := es1) (t' := t2) ho hd
  have sb1 := Heap.SameBut.update s.heap a (Obj.putSet es1 t2)
  split
  · have pm := relayAll_perm t2 es1 (SetTable.grown es1.size)
    have hf3 := relayAll_fits t2 es1 (SetTable.grown es1.size)
    have hr3 := relayAll_ris t2 es1 (SetTable.grown es1.size)
    have hl3 := relayAll_led t2 es1 (SetTable.grown es1.size)
    generalize relayAll t2 es1 (SetTable.grown es1.size) = Z at pm hf3 hr3 hl3 ⊢
    obtain ⟨es2, t3, gave⟩ := Z
    dsimp only at pm hf3 hr3 hl3 ⊢
    have hsz : es2.size = es1.size := by rw [← Array.length_toList, pm.length_eq, Array.length_toList]
    have hb2 : es2.size < scanBound := by rw [hsz]; exact hb1
    refine wpAny_bind (hg _ _ _ ?_)
    refine wpAny_bind (wpAny_storeSet_of ho1 rfl ?_ (fits_of_scanBound hb2))
    have ho2 := store_at (es' := es2) (t' := t3) ho1 rfl
    refine wpAny_pure (hR _ (sb1.trans (Heap.SameBut.update _ a _)) ?_)
    exact ⟨_, es2, _, t3, ho2, hex, rfl, el_perm g1 pm, (pm.map (ek knd)).trans pm1, nd1, hb2, hf3, hr3, hl.imp id fun z => by rw [hl3]; exact z⟩
  · exact wpAny_pure (hR _ sb1 ⟨_, es1, _, t2, ho1, hex, rfl, g1, pm1, nd1, hb1, hf2, hr, hl⟩)
theorem setG_add_hashed {A : Around} {E : Value → Shared → Prop} {s : Shared} {k : K} {v : Value} {Q : Bool → Shared → Prop} (hkey : knd.is k v = true) (hsc : v.scannable = true) (R : SetG knd s.heap a L) (room : L.length + 1 < scanBound)
    (hQ : ∀ h', Heap.SameBut a s.heap h' → SetG knd h' a (if k ∈ L then L else L ++ [k]) → Q (!decide (k ∈ L)) { s with heap := h' }) :
    wpAny (model P w) A (setAddHashed a v (knd.hash k)) Q E s := by
  obtain ⟨o, es, ep, t, ho, hex, hd, g, pm0, nd, hb, hf, hr, hl⟩ := id R
  have hn : es.size = L.length := by rw [← pm0.length_eq, List.length_map, Array.length_toList]
  unfold setAddHashed setAddHashedIn
  refine wpAny_holding (wpAny_bind (wpAny_setState_of ho hd hf ?_))
  dsimp only
  rw [byScan_of hsc hb g]
  simp only [↓reduceIte]
  unfold setAddByScan
  refine wpAny_bind ?_
  refine wpAny_bind (wpAny_rule ?_)
  refine wpAny_bind (wpAny_setScan_of hkey ho hd hf g ?_)
  cases hfi : List.findIdx? (fun e => knd.is k e.2) es.toList with
  | some j =>
    dsimp only
    obtain ⟨hj, pj, _⟩ := List.findIdx?_eq_some_iff_getElem.mp hfi
    have hk : k ∈ L := pm0.mem_iff.mp ((el_mem g k).2 ⟨es.toList[j], List.getElem_mem hj, pj⟩)
    refine wpAny_pure (wpAny_pure ?_)
    have q := hQ s.heap (Heap.SameBut.refl a s.heap) (by rw [if_pos hk]; exact R)
    rw [decide_eq_true hk] at q
    exact q
  | none =>
    dsimp only
    have hnk : k ∉ es.toList.map (ek knd) := fun z => by
      obtain ⟨e, he, q⟩ := (el_mem g k).1 z
      have c := List.findIdx?_eq_none_iff.mp hfi e he
      rw [q] at c
      cases c
    have hk : k ∉ L := fun z => hnk (pm0.mem_iff.mpr z)
    have hgw : ∀ (b : Bool) {s₁ : Shared} {Q' : Unit → Shared → Prop}, Q' () s₁ → wpAny (model P w) A (match b with | true => rule "set.scan.the-table-gave-way" | false => pure ()) Q' E s₁ :=
      fun b s₁ Q' q => by cases b <;> first | exact wpAny_pure q | exact wpAny_rule q
    have pm := layNew_perm t es (knd.hash k) v
    have hf1 := layNew_fits t es (knd.hash k) v
    have hr1 := layNew_ris t es (knd.hash k) v hr
    have hl1 := layNew_led t es (knd.hash k) v
    generalize layNew t es (knd.hash k) v = Z at pm hf1 hr1 hl1 ⊢
    obtain ⟨es1, t1, wasDummy, gave⟩ := Z
    dsimp only at pm hf1 hr1 hl1 ⊢
    rw [Array.toList_push] at pm
    have pc : es1.toList.Perm ((knd.hash k, v) :: es.toList) := pm.trans (List.perm_append_singleton _ _)
    have ekk : ek knd (knd.hash k, v) = k := kf_of knd hkey
    have pk : (es1.toList.map (ek knd)).Perm (L ++ [k]) := by
      refine (pc.map (ek knd)).trans ?_
      rw [List.map_cons, ekk]
      exact (pm0.cons k).trans (List.perm_append_singleton _ _).symm
    have g1 : ElemsOf knd es1.toList := fun e he => by
      rcases List.mem_cons.mp (pc.mem_iff.mp he) with z | z
      · rw [z]; exact ⟨⟨k, hkey, rfl⟩, hsc⟩
      · exact g e z
    have nd1 : (L ++ [k]).Nodup := (List.perm_append_singleton k L).nodup_iff.mpr (List.nodup_cons.mpr ⟨hk, nd⟩)
    have hsz : es1.size = es.size + 1 := by rw [← Array.length_toList, pc.length_eq, List.length_cons, Array.length_toList]
    have hb1 : es1.size < scanBound := by rw [hsz, hn]; exact room
    have hled : w.params.followText "set-order" = true ∨ t1.led = true := hl.imp id fun z => by rw [hl1]; exact z
    have fin : ∀ h', Heap.SameBut a s.heap h' → SetG knd h' a (L ++ [k]) → Q true { s with heap := h' } := fun h' sb r => by
      have q := hQ h' sb (by rw [if_neg hk]; exact r)
      rw [decide_eq_false hk] at q
      exact q
    refine wpAny_bind (hgw _ ?_)
    split
    · refine wpAny_bind ?_
      rw [hashByValue_scannable 8 hsc]
      refine wpAny_pure ?_
      refine setG_add_tail ?_ ho hex hd g1 pk nd1 hb1 ?_ ?_ ?_ ?_
      · intro b s₁ Q' q; cases b <;> first | exact wpAny_pure q | exact wpAny_rule q
      · first | (split <;> first | exact hf1 | exact SetTable.fits_plain_off hf1) | exact hf1
      · first | (split <;> exact hr1) | exact hr1
      · first | (split <;> exact hled) | exact hled
      · intro h' sb r; dsimp only; exact wpAny_pure (fin h' sb r)
    · refine wpAny_bind (wpAny_pure ?_)
      simp only [↓reduceIte]
      refine setG_add_tail ?_ ho hex hd g1 pk nd1 hb1 hf1 hr1 hled ?_
      · intro b s₁ Q' q; cases b <;> first | exact wpAny_pure q | exact wpAny_rule q
      · intro h' sb r; dsimp only; exact wpAny_pure (fin h' sb r)

/-- the keys met, each once, in the order of the first meetings -/
def metG (acc : List K) : List K → List K
  | [] => acc
  | k :: r => metG (if k ∈ acc then acc else acc ++ [k]) r
theorem metG_len : ∀ (ks acc : List K), (metG acc ks).length ≤ acc.length + ks.length
  | [], acc => Nat.le_refl _
  | k :: r, acc => by
    have := metG_len r (if k ∈ acc then acc else acc ++ [k])
    rw [metG, List.length_cons]
    split at this <;> rename_i c
    · rw [if_pos c]; omega
    · rw [if_neg c]
      rw [List.length_append, List.length_singleton] at this
      omega

theorem setG_loop {A : Around} {R : Result → Shared → Prop} {I : Addr} {fp wr : List Addr} {G : Array GenState → Array GenState → Prop} {n : Nat} {Pv : Nat → Value → Prop} {St : Nat → Shared → Prop}
    (W : WalksS P w A.in1 I fp wr G n Pv St) (S : Addr) (hSf : S ∉ fp) (ks : List K) (hks : ks.length = n)
    (hval : ∀ (i : Nat) (v : Value) (k : K), Pv i v → ks[i]? = some k → knd.is k v = true ∧ v.scannable = true) (hb : n + 1 < scanBound) :
    ∀ (m i : Nat) (L : List K) (s : Shared), n - i = m → i ≤ n → L.length ≤ i → St i s → SetG knd s.heap S L →
      (∀ s', Moved (S :: wr) G s s' → SetG knd s'.heap S (metG L (ks.drop i)) → R (.ok (.ret .none)) s') →
      codeAny (model P w) A (.builtin "set.update.loop" ⟨[.ref S, .ref I], []⟩) R s := by
  have hSw : S ∉ wr := fun h => hSf (W.sub _ h)
  have hsub : ∀ b ∈ wr, b ∈ S :: wr := fun b hb => List.mem_cons_of_mem _ hb
  intro m
  induction m with
  | zero =>
    intro i L s hk hi hL hst hS hR
    have hin : i = n := by omega
    subst hin
    refine codeAny_builtin PyProof.Rows.F.entry_set_update_loop ?_
    rw [Around.under_plainId PyProof.Rows.F.plain_set_update_loop _]
    show wpAny _ A.in1 (pyNext (.ref I) >>= _) _ _ s
    refine wpAny_bind (W.done s _ _ hst fun s' hm => ?_)
    show wpAny _ A.in1 (ret Value.none) _ _ s'
    refine wpAny_pure (hR s' (hm.mono hsub) ?_)
    rw [List.drop_eq_nil_of_le (by omega)]
    exact hS.at fun o e => hm.heap S _ hSw e
  | succ m ih =>
    intro i L s hk hi hL hst hS hR
    have hlt : i < n := by omega
    have hlk : i < ks.length := by omega
    refine codeAny_builtin PyProof.Rows.F.entry_set_update_loop ?_
    rw [Around.under_plainId PyProof.Rows.F.plain_set_update_loop _]
    show wpAny _ A.in1 (pyNext (.ref I) >>= _) _ _ s
    refine wpAny_bind (W.item i s _ _ hlt hst fun v s' hP hst' hm => ?_)
    obtain ⟨hkey, hsc⟩ := hval i v ks[i] hP (List.getElem?_eq_getElem hlk)
    have hS' : SetG knd s'.heap S L := hS.at fun o e => hm.heap S _ hSw e
    show wpAny _ A.in1 (holding [v] (setAdd S v) >>= _) _ _ s'
    refine wpAny_bind (wpAny_holding ?_)
    unfold setAdd
    refine wpAny_holding ?_
    refine wpAny_bind (knd.pyHash (k := ks[i]) hkey ?_)
    refine setG_add_hashed (s := { s' with toks := s'.toks + 1 }) hkey hsc hS' (by omega) fun h' hsb hS2 => ?_
    refine wpAny_pure ⟨plainId_quiet PyProof.Rows.F.plain_set_update_loop _, ih (i + 1) _ _ (by omega) hlt ?_ (W.frame _ s' _ _ hst' (Nat.le_succ _) fun b hb o e => ?_) hS2 fun s'' hm'' hS'' => ?_⟩
    · split
      · omega
      · rw [List.length_append, List.length_singleton]; omega
    · rw [hsb.2 b (fun h : b = S => hSf (by rw [← h]; exact hb))]; exact e
    · refine hR s'' (Moved.trans W.gtrans ((hm.mono hsub).then_heap (Nat.le_succ _) fun b o hb e => ?_) hm'') ?_
      · rw [hsb.2 b (fun h : b = S => hb (by rw [h]; exact List.mem_cons_self))]; exact e
      · rw [List.drop_eq_getElem_cons hlk]
        exact hS''

theorem code_set_led1 {A : Around} {E : Value → Shared → Prop} {s : Shared} (x : Value) {Q₁ : Value → Shared → Prop}
    (h : Q₁ (.ref s.heap.objs.size) { s with heap := s.heap.push { cls := .type "set", dict := none, data := .set #[] 0 (.fresh 0 0 (!w.params.followText "set-order")) } }) :
    codeAny (model P w) A (.call (.builtin "set.__new__") ⟨[.type "set", x], []⟩) (wants Q₁ E) s := by
  refine codeAny_of_tree ?_
  show wpAny _ A.in1 (do checkBuiltinCall "set.__new__" ⟨[.type "set", x], []⟩; again (.builtin "set.__new__" ⟨[.type "set", x], []⟩)) _ _ s
  refine wpAny_bind (wpAny_of_eq (PySem.F.newCall_set_1 x) (wpAny_pure ⟨plainId_quiet PySem.F.plain_set_new _, codeAny_builtin PySem.F.entry_set_new ?_⟩))
  rw [Around.under_plainId PySem.F.plain_set_new _]
  unfold Builtin.«set.__new__» Builtin.Frozenset.newClass
  have hsub := sub_set_self
  obtain ⟨hp, g, d, tk, os⟩ := s
  dsimp only
  wp_walk
  refine wpAny_askSetting (wpAny_pure ?_)
  dsimp only
  simp only [newObj]
  refine wpAny_bind (wpAny_alloc (wpAny_pure ?_))
  exact wpAny_pure h
theorem setG_fresh {h : Heap} {a : Addr} (ho : h.get? a = some { cls := .type "set", dict := none, data := .set #[] 0 (.fresh 0 0 (!w.params.followText "set-order")) }) : SetG knd h a [] :=
  ⟨_, #[], 0, _, ho, ⟨rfl, rfl, rfl⟩, rfl, (fun e he => by simp at he), List.Perm.refl _, List.nodup_nil, (by decide), (by rfl), List.Pairwise.nil, by
    show _ ∨ (!w.params.followText "set-order") = true
    cases w.params.followText "set-order"
    · exact .inr rfl
    · exact .inl rfl⟩
end

theorem sub_tuple_set : isSubtype (.type "tuple") (.type "set") = pure false := by rw [isSubtype_type]; kernel_rfl
theorem sub_tuple_frozenset : isSubtype (.type "tuple") (.type "frozenset") = pure false := by rw [isSubtype_type]; kernel_rfl
section
variable {K : Type} [DecidableEq K] [Inhabited K] {P : Program} {w : World} {knd : PySem.KeyKind P w K} {A : Around} {E : Value → Shared → Prop} {s : Shared}
set_option maxHeartbeats 3200000 in
theorem call_setG_list {l : Addr} {items : Array Value} {ks : List K} {Q : Value → Shared → Prop}
    (hh : A.handled = none) (hl : s.heap.IsList l items) (hks : ks.length = items.size) (hi : ∀ (i : Nat) (v : Value) (k : K), items[i]? = some v → ks[i]? = some k → knd.is k v = true ∧ v.scannable = true) (hb : items.size + 1 < scanBound)
    (h : ∀ (h' : Heap) (tk : Nat), SetG knd h' s.heap.objs.size (metG [] ks) → (∀ b o, b < s.heap.objs.size → s.heap.get? b = some o → h'.get? b = some o) → Q (.ref s.heap.objs.size) { s with heap := h', toks := tk }) :
    wpAny (model P w) A (call (.type "set") [.ref l]) Q E s := by
  obtain ⟨c, tl, hmro⟩ := PySem.F.called_set.mro
  have hmade := PySem.F.called_set.made
  have hsub := PySem.F.called_set.sub
  refine wpAny_call (codeAny_of_tree ?_)
  show wpAny _ _ (callAny (.type "set") _) _ _ _
  refine wpAny_pure ⟨Code.quiet_builtin _ (by decide +kernel), codeAny_builtin PySem.F.entry_type_call ?_⟩
  rw [Around.under_plain (weight_type_call_type "set" [.ref l] []) rfl]
  have h1 := PySem.F.called_set.notType
  have h2 := PySem.F.called_set.canCreate
  have hct := PySem.F.typeCall_set_1 (.ref l)
  repeat (any_goals (first | assumption | wp_step))
  refine codeAny_mono (code_set_led1 (.ref l) (E := E) (Q₁ := fun obj s₁ => obj = .ref s.heap.objs.size ∧ s₁ = { s with heap := s.heap.push { cls := .type "set", dict := none, data := .set #[] 0 (.fresh 0 0 (!w.params.followText "set-order")) } }) ⟨rfl, rfl⟩) fun r s₁ hr => ?_
  cases r with
  | error e => exact hr
  | ok fl =>
    cases fl with
    | ret obj =>
      obtain ⟨rfl, rfl⟩ := hr
      have hS : (s.heap.push { cls := .type "set", dict := none, data := .set #[] 0 (.fresh 0 0 (!w.params.followText "set-order")) }).get? s.heap.objs.size = some { cls := .type "set", dict := none, data := .set #[] 0 (.fresh 0 0 (!w.params.followText "set-order")) } := Heap.get?_push_size _ rfl
      have hT : Shared.TypeIs { s with heap := s.heap.push { cls := .type "set", dict := none, data := .set #[] 0 (.fresh 0 0 (!w.params.followText "set-order")) } } (.ref s.heap.objs.size) "set" := ⟨_, hS, rfl⟩
      have hli := PySem.F.called_set.init.lookup
      have hbi := PySem.F.called_set.init.bind (.ref s.heap.objs.size)
      repeat (any_goals (first | assumption | wp_step))
      refine codeAny_mono (codeAny_call_builtin (R := wants (fun r s₂ => r = .none ∧ ∃ h' tk, s₂ = { s with heap := h', toks := tk } ∧ SetG knd h' s.heap.objs.size (metG [] ks) ∧
          (∀ b o, b < s.heap.objs.size → s.heap.get? b = some o → h'.get? b = some o)) E) PySem.F.called_set.init.plain PySem.F.entry_set_init (check_set_init_1 hT ?_)) fun r₂ s₂ hr₂ => ?_
      · obtain ⟨ol, hol, hcl, nl, hdl⟩ := hl
        obtain ⟨ocls, odict, odata, oslots⟩ := ol
        simp only at hcl hdl
        subst hcl; subst hdl
        have hol' : (s.heap.push { cls := .type "set", dict := none, data := .set #[] 0 (.fresh 0 0 (!w.params.followText "set-order")) }).get? l = some { cls := .type "list", dict := odict, data := .seq items nl, slots := oslots } := Heap.get?_push_of_some _ hol
        have hsls := PySem.F.sub_list_set
        have hslf := PySem.F.sub_list_frozenset
        have hne : (Value.type "list" == Value.type "dict") = false := by decide
        have hl1 : (s.heap.push { cls := .type "set", dict := none, data := .set #[] 0 (.fresh 0 0 (!w.params.followText "set-order")) }).IsList l items := ⟨_, hol', rfl, nl, rfl⟩
        unfold Builtin.«set.__init__» noKeywords Builtin.Frozenset.updateFrom
        generalize hPI : pyIter = PI
        wp_walk
        subst hPI
        refine wpAny_pyIter_list hl1 ?_
        refine wpAny_bind (wpAny_runValue ?_)
        have hlS : l < s.heap.objs.size := Heap.lt_size hol
        have hh3 : A.in1.in1.in1.handled = none := by simp [hh]
        have hneI : l ≠ (s.heap.push { cls := .type "set", dict := none, data := .set #[] 0 (.fresh 0 0 (!w.params.followText "set-order")) }).objs.size := by
          rw [Heap.size_push]; exact Nat.ne_of_lt (Nat.lt_succ_of_lt hlS)
        have hSf : s.heap.objs.size ∉ [(s.heap.push { cls := .type "set", dict := none, data := .set #[] 0 (.fresh 0 0 (!w.params.followText "set-order")) }).objs.size, l] := by
          rw [Heap.size_push]; simp only [List.mem_cons, List.mem_singleton, List.not_mem_nil, or_false, not_or]
          exact ⟨Nat.ne_of_lt (Nat.lt_succ_self _), Nat.ne_of_gt hlS⟩
        refine setG_loop ((Walks.list hh3 _ l hneI items).toS) s.heap.objs.size
          hSf ks hks (fun i v k hv hk => hi i v k hv hk) hb (items.size - 0) 0 [] _ (by omega) (Nat.zero_le _) (Nat.le_refl _)
          ⟨⟨_, Heap.get?_push_size _ rfl, rfl, rfl⟩, (hl1.push _)⟩ ?hS0 ?hR
        case hS0 =>
          exact setG_fresh (Heap.get?_push_of_some _ hS)
        case hR =>
          intro s' hm hS'
          obtain ⟨h', g', d', tk', os'⟩ := s'
          have eg : g' = s.gens := hm.gens
          have ed : d' = s.drawn := hm.drawn
          have eo : os' = s.os := hm.os
          subst eg; subst ed; subst eo
          show wpAny _ _ _ _ _ _
          refine wpAny_pure ?_
          show wpAny _ _ (ret Value.none) _ _ _
          refine wpAny_pure ⟨rfl, h', tk', rfl, by simpa using hS', fun b o hb e => ?_⟩
          have hb1 : b ≠ s.heap.objs.size := Nat.ne_of_lt hb
          have hb2 : b ≠ (s.heap.push { cls := .type "set", dict := none, data := .set #[] 0 (.fresh 0 0 (!w.params.followText "set-order")) }).objs.size := by
            rw [Heap.size_push]; exact Nat.ne_of_lt (Nat.lt_succ_of_lt hb)
          exact hm.heap b o (by simp only [List.mem_cons, List.mem_singleton, List.not_mem_nil, or_false, not_or]; exact ⟨hb1, hb2⟩) (Heap.get?_push_of_some _ (Heap.get?_push_of_some _ e))
      · cases r₂ with
        | error e => exact hr₂
        | ok fl₂ =>
          cases fl₂ with
          | ret r =>
            obtain ⟨rfl, h', tk, rfl, hS', hk'⟩ := hr₂
            repeat (any_goals (first | assumption | wp_step))
            exact h _ _ hS' hk'
          | _ => exact hr₂.elim
    | _ => exact hr.elim
set_option maxHeartbeats 3200000 in
theorem call_setG_tuple {l : Addr} {items : Array Value} {ks : List K} {Q : Value → Shared → Prop}
    (hh : A.handled = none) (hl : s.heap.IsTuple l items) (hks : ks.length = items.size) (hi : ∀ (i : Nat) (v : Value) (k : K), items[i]? = some v → ks[i]? = some k → knd.is k v = true ∧ v.scannable = true) (hb : items.size + 1 < scanBound)
    (h : ∀ (h' : Heap) (tk : Nat), SetG knd h' s.heap.objs.size (metG [] ks) → (∀ b o, b < s.heap.objs.size → s.heap.get? b = some o → h'.get? b = some o) → Q (.ref s.heap.objs.size) { s with heap := h', toks := tk }) :
    wpAny (model P w) A (call (.type "set") [.ref l]) Q E s := by
  obtain ⟨c, tl, hmro⟩ := PySem.F.called_set.mro
  have hmade := PySem.F.called_set.made
  have hsub := PySem.F.called_set.sub
  refine wpAny_call (codeAny_of_tree ?_)
  show wpAny _ _ (callAny (.type "set") _) _ _ _
  refine wpAny_pure ⟨Code.quiet_builtin _ (by decide +kernel), codeAny_builtin PySem.F.entry_type_call ?_⟩
  rw [Around.under_plain (weight_type_call_type "set" [.ref l] []) rfl]
  have h1 := PySem.F.called_set.notType
  have h2 := PySem.F.called_set.canCreate
  have hct := PySem.F.typeCall_set_1 (.ref l)
  repeat (any_goals (first | assumption | wp_step))
  refine codeAny_mono (code_set_led1 (.ref l) (E := E) (Q₁ := fun obj s₁ => obj = .ref s.heap.objs.size ∧ s₁ = { s with heap := s.heap.push { cls := .type "set", dict := none, data := .set #[] 0 (.fresh 0 0 (!w.params.followText "set-order")) } }) ⟨rfl, rfl⟩) fun r s₁ hr => ?_
  cases r with
  | error e => exact hr
  | ok fl =>
    cases fl with
    | ret obj =>
      obtain ⟨rfl, rfl⟩ := hr
      have hS : (s.heap.push { cls := .type "set", dict := none, data := .set #[] 0 (.fresh 0 0 (!w.params.followText "set-order")) }).get? s.heap.objs.size = some { cls := .type "set", dict := none, data := .set #[] 0 (.fresh 0 0 (!w.params.followText "set-order")) } := Heap.get?_push_size _ rfl
      have hT : Shared.TypeIs { s with heap := s.heap.push { cls := .type "set", dict := none, data := .set #[] 0 (.fresh 0 0 (!w.params.followText "set-order")) } } (.ref s.heap.objs.size) "set" := ⟨_, hS, rfl⟩
      have hli := PySem.F.called_set.init.lookup
      have hbi := PySem.F.called_set.init.bind (.ref s.heap.objs.size)
      repeat (any_goals (first | assumption | wp_step))
      refine codeAny_mono (codeAny_call_builtin (R := wants (fun r s₂ => r = .none ∧ ∃ h' tk, s₂ = { s with heap := h', toks := tk } ∧ SetG knd h' s.heap.objs.size (metG [] ks) ∧
          (∀ b o, b < s.heap.objs.size → s.heap.get? b = some o → h'.get? b = some o)) E) PySem.F.called_set.init.plain PySem.F.entry_set_init (check_set_init_1 hT ?_)) fun r₂ s₂ hr₂ => ?_
      · obtain ⟨ol, hol, hcl, nl, hdl⟩ := hl
        obtain ⟨ocls, odict, odata, oslots⟩ := ol
        simp only at hcl hdl
        subst hcl; subst hdl
        have hol' : (s.heap.push { cls := .type "set", dict := none, data := .set #[] 0 (.fresh 0 0 (!w.params.followText "set-order")) }).get? l = some { cls := .type "tuple", dict := odict, data := .seq items nl, slots := oslots } := Heap.get?_push_of_some _ hol
        have hsls := sub_tuple_set
        have hslf := sub_tuple_frozenset
        have hne : (Value.type "tuple" == Value.type "dict") = false := by decide
        have hl1 : (s.heap.push { cls := .type "set", dict := none, data := .set #[] 0 (.fresh 0 0 (!w.params.followText "set-order")) }).IsTuple l items := ⟨_, hol', rfl, nl, rfl⟩
        unfold Builtin.«set.__init__» noKeywords Builtin.Frozenset.updateFrom
        generalize hPI : pyIter = PI
        wp_walk
        subst hPI
        refine wpAny_pyIter_tuple hl1 ?_
        refine wpAny_bind (wpAny_runValue ?_)
        have hlS : l < s.heap.objs.size := Heap.lt_size hol
        have hh3 : A.in1.in1.in1.handled = none := by simp [hh]
        have hneI : l ≠ (s.heap.push { cls := .type "set", dict := none, data := .set #[] 0 (.fresh 0 0 (!w.params.followText "set-order")) }).objs.size := by
          rw [Heap.size_push]; exact Nat.ne_of_lt (Nat.lt_succ_of_lt hlS)
        have hSf : s.heap.objs.size ∉ [(s.heap.push { cls := .type "set", dict := none, data := .set #[] 0 (.fresh 0 0 (!w.params.followText "set-order")) }).objs.size, l] := by
          rw [Heap.size_push]; simp only [List.mem_cons, List.mem_singleton, List.not_mem_nil, or_false, not_or]
          exact ⟨Nat.ne_of_lt (Nat.lt_succ_self _), Nat.ne_of_gt hlS⟩
        refine setG_loop ((Walks.tuple hh3 _ l hneI items).toS) s.heap.objs.size
          hSf ks hks (fun i v k hv hk => hi i v k hv hk) hb (items.size - 0) 0 [] _ (by omega) (Nat.zero_le _) (Nat.le_refl _)
          ⟨⟨_, Heap.get?_push_size _ rfl, rfl, rfl⟩, (hl1.push _)⟩ ?hS0 ?hR
        case hS0 =>
          exact setG_fresh (Heap.get?_push_of_some _ hS)
        case hR =>
          intro s' hm hS'
          obtain ⟨h', g', d', tk', os'⟩ := s'
          have eg : g' = s.gens := hm.gens
          have ed : d' = s.drawn := hm.drawn
          have eo : os' = s.os := hm.os
          subst eg; subst ed; subst eo
          show wpAny _ _ _ _ _ _
          refine wpAny_pure ?_
          show wpAny _ _ (ret Value.none) _ _ _
          refine wpAny_pure ⟨rfl, h', tk', rfl, by simpa using hS', fun b o hb e => ?_⟩
          have hb1 : b ≠ s.heap.objs.size := Nat.ne_of_lt hb
          have hb2 : b ≠ (s.heap.push { cls := .type "set", dict := none, data := .set #[] 0 (.fresh 0 0 (!w.params.followText "set-order")) }).objs.size := by
            rw [Heap.size_push]; exact Nat.ne_of_lt (Nat.lt_succ_of_lt hb)
          exact hm.heap b o (by simp only [List.mem_cons, List.mem_singleton, List.not_mem_nil, or_false, not_or]; exact ⟨hb1, hb2⟩) (Heap.get?_push_of_some _ (Heap.get?_push_of_some _ e))
      · cases r₂ with
        | error e => exact hr₂
        | ok fl₂ =>
          cases fl₂ with
          | ret r =>
            obtain ⟨rfl, h', tk, rfl, hS', hk'⟩ := hr₂
            repeat (any_goals (first | assumption | wp_step))
            exact h _ _ hS' hk'
          | _ => exact hr₂.elim
    | _ => exact hr.elim

end
end DL


/-! DL35: sorted(set(xs)), len(set(xs)) over data -/
namespace DL
open PySem PySem.Spec PyProof.Rows L2
open PySem.W (EachIs SortsAt dataLe sortVals copyHeap)
instance : Inhabited Key := ⟨.inl 0⟩
abbrev keD : Key → D
  | .inl i => .int i
  | .inr x => .str x
def ksOf : List D → Option (List Key)
  | [] => some []
  | .int i :: r => (ksOf r).map (.inl i :: ·)
  | .str x :: r => (ksOf r).map (.inr x :: ·)
  | _ => none
theorem ksOf_map : ∀ {ds : List D} {ks : List Key}, ksOf ds = some ks → ds = ks.map keD
  | [], ks, h => by cases h; rfl
  | .int i :: r, ks, h => by
    obtain ⟨l, h1, rfl⟩ := mapS h
    rw [ksOf_map h1]; rfl
  | .str i :: r, ks, h => by
    obtain ⟨l, h1, rfl⟩ := mapS h
    rw [ksOf_map h1]; rfl
  | .non :: _, _, h => by simp [ksOf] at h
  | .bl _ :: _, _, h => by simp [ksOf] at h
  | .ref _ :: _, _, h => by simp [ksOf] at h
  | .tup _ :: _, _, h => by simp [ksOf] at h
  | .lst _ :: _, _, h => by simp [ksOf] at h
  | .rol _ :: _, _, h => by simp [ksOf] at h
  | .dcu _ _ :: _, _, h => by simp [ksOf] at h
  | .dct _ _ :: _, _, h => by simp [ksOf] at h
theorem rep_keD {W : Wd} {k : Key} {v : V} : Rep W (keD k) v ↔ v = kV k := by
  cases k <;> exact Iff.rfl
theorem reps_keD {W : Wd} : ∀ {ks : List Key} {vs : List V}, Reps W (ks.map keD) vs → vs = ks.map kV
  | [], vs, h => h
  | k :: ks, vs, h => by
    obtain ⟨v, r, rfl, h1, h2⟩ := h
    rw [rep_keD.mp h1, reps_keD h2]; rfl
def isL : Key → Bool
  | .inl _ => true
  | .inr _ => false
def alikeK (ks : List Key) : Bool := ks.all isL || ks.all fun k => !isL k
theorem keyOkK_of {ks : List Key} (h : alikeK ks = true) (hl : ks.length ≤ sizeLine) : KeyOk (ks.map keD) := by
  have al : ∀ k ∈ ks, ∀ k' ∈ ks, isL k = isL k' := fun k hk k' hk' => by
    unfold alikeK at h
    rw [Bool.or_eq_true, List.all_eq_true, List.all_eq_true] at h
    rcases h with h | h
    · rw [h k hk, h k' hk']
    · have h1 := h k hk
      have h2 := h k' hk'
      revert h1 h2
      cases isL k <;> cases isL k' <;> simp
  refine ⟨?_, fun d hd e he => ?_, .inr (.inl fun d hd => ?_), by simpa using hl⟩
  · clear h hl al
    induction ks with
    | nil => rfl
    | cons k ks ih =>
      rw [List.map_cons, eqOks, ih, Bool.and_true]
      cases k <;> simp [eqOk]
  · obtain ⟨k, hk, rfl⟩ := List.mem_map.mp hd
    obtain ⟨k', hk', rfl⟩ := List.mem_map.mp he
    have := al k hk k' hk'
    cases k <;> cases k' <;> first | (simp [isL] at this; done) | (simp [cmpC]; done)
  · obtain ⟨k, hk, rfl⟩ := List.mem_map.mp hd
    cases k <;> rfl
theorem alikeK_sub {ks ks' : List Key} (h : alikeK ks = true) (s : ∀ k, k ∈ ks' → k ∈ ks) : alikeK ks' = true := by
  unfold alikeK at h ⊢
  rw [Bool.or_eq_true, List.all_eq_true, List.all_eq_true] at h ⊢
  exact h.imp (fun h k hk => h k (s k hk)) fun h k hk => h k (s k hk)
theorem metG_mem {K : Type} [DecidableEq K] {x : K} : ∀ (ks acc : List K), x ∈ metG acc ks ↔ x ∈ acc ∨ x ∈ ks
  | [], acc => by simp [metG]
  | k :: r, acc => by
    rw [metG, metG_mem r]
    split <;> rename_i c
    · constructor
      · rintro (h | h)
        · exact .inl h
        · exact .inr (List.mem_cons_of_mem _ h)
      · rintro (h | h)
        · exact .inl h
        · rcases List.mem_cons.mp h with rfl | h
          · exact .inl c
          · exact .inr h
    · rw [List.mem_append, List.mem_singleton, List.mem_cons, or_assoc]
theorem metG_nodup {K : Type} [DecidableEq K] : ∀ (ks acc : List K), acc.Nodup → (metG acc ks).Nodup
  | [], acc, h => h
  | k :: r, acc, h => by
    rw [metG]
    refine metG_nodup r _ ?_
    split <;> rename_i c
    · exact h
    · exact (List.perm_append_singleton k acc).nodup_iff.mpr (List.nodup_cons.mpr ⟨c, h⟩)
theorem str_ext' {x y : Str} (h : x.cps.toList = y.cps.toList) : x = y := PySem.W.str_of_cps h
theorem tk_inj {k k' : Key} (h : tk (keD k) = tk (keD k')) : k = k' := by
  cases k with
  | inl a =>
    cases k' with
    | inl b => simpa [tk, pd, PySem.W.keyToks] using h
    | inr b => simp [tk, pd, PySem.W.keyToks] at h
  | inr a =>
    cases k' with
    | inl b => simp [tk, pd, PySem.W.keyToks] at h
    | inr b =>
      have e : a.cps.toList = b.cps.toList := by simpa [tk, pd, PySem.W.keyToks] using h
      rw [str_ext' e]
theorem ltD_le (a b c : D) (h1 : (!ltD b a) = true) (h2 : (!ltD c b) = true) : (!ltD c a) = true := by
  have e1 : (listOrd itemOrd).kle (tk a) (tk b) := by simpa [KeyOrd.kle, ltD] using h1
  have e2 : (listOrd itemOrd).kle (tk b) (tk c) := by simpa [KeyOrd.kle, ltD] using h2
  have e3 := KeyOrd.kle_trans e1 e2
  simpa [KeyOrd.kle, ltD] using e3
theorem ltD_tot (a b : D) : ((!ltD b a) || (!ltD a b)) = true := by
  cases h : ltD b a with
  | false => simp
  | true =>
    have e1 : (listOrd itemOrd).klt (tk b) (tk a) := h
    have e2 := KeyOrd.klt_asymm e1
    have e3 : ltD a b = false := e2
    rw [e3]; simp
/-- two sorted lists of the same distinct things are one -/
theorem sorted_one {α : Type} {r : α → α → Bool} : ∀ {l l' : List α}, l.Perm l' → l.Pairwise (fun a b => r a b = true) → l'.Pairwise (fun a b => r a b = true) → (∀ a ∈ l, ∀ b ∈ l, r a b = true → r b a = true → a = b) → l = l'
  | [], l', p, _, _, _ => by rw [List.Perm.nil_eq p]
  | a :: l, [], p, _, _, _ => absurd p.length_eq (by simp)
  | a :: l, b :: l', p, s, s', an => by
    rw [List.pairwise_cons] at s s'
    have ha : a ∈ b :: l' := p.mem_iff.mp List.mem_cons_self
    have hb : b ∈ a :: l := p.mem_iff.mpr List.mem_cons_self
    have e : a = b := by
      rcases List.mem_cons.mp ha with h | h
      · exact h
      rcases List.mem_cons.mp hb with h' | h'
      · exact h'.symm
      exact an a List.mem_cons_self b hb (s.1 b h') (s'.1 a h)
    subst e
    rw [sorted_one (p.cons_inv) s.2 s'.2 fun x hx y hy => an x (List.mem_cons_of_mem _ hx) y (List.mem_cons_of_mem _ hy)]
theorem sortD_perm {ks ks' : List Key} (p : ks.Perm ks') : sortD (ks.map keD) = sortD (ks'.map keD) := by
  unfold sortD
  refine sorted_one (r := fun a b => !ltD b a) ((List.mergeSort_perm _ _).trans ((p.map keD).trans (List.mergeSort_perm _ _).symm)) (List.pairwise_mergeSort (le := fun a b => !ltD b a) ltD_le ltD_tot _) (List.pairwise_mergeSort (le := fun a b => !ltD b a) ltD_le ltD_tot _) fun a ha b hb h1 h2 => ?_
  obtain ⟨k, hk, rfl⟩ := List.mem_map.mp ((List.mergeSort_perm _ _).mem_iff.mp ha)
  obtain ⟨k', hk', rfl⟩ := List.mem_map.mp ((List.mergeSort_perm _ _).mem_iff.mp hb)
  have e1 : (listOrd itemOrd).kle (tk (keD k)) (tk (keD k')) := by simpa [KeyOrd.kle, ltD] using h1
  have e2 : (listOrd itemOrd).kle (tk (keD k')) (tk (keD k)) := by simpa [KeyOrd.kle, ltD] using h2
  rw [tk_inj (KeyOrd.kle_antisymm e1 e2)]

/-! ### the object -/
def SetGO (P : Program) (w : World) (a : Addr) (L : List Key) : HO := .ext fun h => SetG (mixKind P w) h a L
section
variable {X : Cx} {pins : List (Addr × Obj)} {σ : L2.St} {H : Hp} {s : Shared}
theorem setGO_new {P : Program} {w : World} {H : Hp} {h : Heap} {a : Addr} {L : List Key} (R : SetG (mixKind P w) h a L) : ObjOk P w H h a (SetGO P w a L) := by
  have ⟨o, _, _, _, ho, _⟩ := R
  exact ⟨R, ⟨o, ho⟩, fun h1 h2 p k => SetG.at p k⟩
theorem setGO_get {a : Addr} {L : List Key} (I : Inv X pins σ H s) (ha : H a = some (SetGO X.prog X.w a L)) : SetG (mixKind X.prog X.w) s.heap a L := (I.hok a _ ha).1
theorem vals_key {P : Program} {w : World} {k : Key} {v : Value} (r : RelV (kV k) v) : (mixKind P w).is k v = true ∧ v.scannable = true := ⟨kV_is r, key_scan r⟩
/-- set(xs) -/
def rSetG (K : Fr) (P : Program) (w : World) : List V → Hp → VK → Prop := fun xs H Q => ∃ l ks, xs = [V.ref l] ∧ (SqL K H l (ks.map kV) ∨ SqT K H l (ks.map kV)) ∧ ks.length + 1 < scanBound ∧ ∀ p, H p = none → Q (.ref p) (upd H p (SetGO P w p (metG [] ks)))
theorem cr_setG (hc : X.calm = true) : CallR X (.type "set") (rSetG X.KW X.prog X.w) := by
  intro pins s σ H xs us Q I r h
  obtain ⟨l, ks, rfl, hq, hb, q⟩ := h
  rw [L2.Vals.ref1 r]
  have fin : ∀ (h' : Heap) (tk : Nat), SetG (mixKind X.prog X.w) h' s.heap.objs.size (metG [] ks) → (∀ b o, b < s.heap.objs.size → s.heap.get? b = some o → h'.get? b = some o) → EP X pins σ Q (.ref s.heap.objs.size) { s with heap := h', toks := tk } := fun h' tk R k =>
    ⟨.ref _, upd H s.heap.objs.size (SetGO X.prog X.w s.heap.objs.size (metG [] ks)), I.laid (t' := tk) (fun b u e => k b u (Heap.lt_size e) e) (Nat.le_refl _) (setGO_new R), rfl, q _ (I.hok.fresh (Nat.le_refl _))⟩
  have key : ∀ its : List Value, Vals (ks.map kV) its → ∀ i v k, its.toArray[i]? = some v → ks[i]? = some k → (mixKind X.prog X.w).is k v = true ∧ v.scannable = true := fun its rv i v k hv hk => by
    obtain ⟨u, h1, h2⟩ := rv.get (i := i) (x := kV k) (by rw [List.getElem?_map, hk]; rfl)
    have e : its[i]? = some v := by
      rw [← Array.getElem?_toList] at hv
      exact hv
    rw [e] at h1
    cases h1
    exact vals_key h2
  rcases hq with hq | hq
  · obtain ⟨its, rv, pl, hz⟩ := I.list hq
    have len : ks.length = its.toArray.size := by rw [List.size_toArray, ← rv.length, List.length_map]
    exact call_setG_list (I.ok.hd hc) pl.isList len (key its rv) (by rw [← len]; exact hb) fin
  · obtain ⟨its, rv, pl, hz⟩ := I.tuple hq
    have len : ks.length = its.toArray.size := by rw [List.size_toArray, ← rv.length, List.length_map]
    exact call_setG_tuple (I.ok.hd hc) pl len (key its rv) (by rw [← len]; exact hb) fin
/-- len(set) -/
def rLenG (P : Program) (w : World) : List V → Hp → VK → Prop := fun xs H Q => ∃ a L, xs = [V.ref a] ∧ H a = some (SetGO P w a L) ∧ Q (.int L.length) H
theorem cr_lenG : CallR X (.builtin "len") (rLenG X.prog X.w) := by
  intro pins s σ H xs us Q I r h
  obtain ⟨a, L, rfl, ha, q⟩ := h
  rw [L2.Vals.ref1 r]
  obtain ⟨o, es, ep, t, ho, hex, hd, g, pm, nd, hb, hf, _⟩ := setGO_get I ha
  have hn : es.size = L.length := by rw [← pm.length_eq, List.length_map, Array.length_toList]
  have hb2 : es.size < 4096 := hb
  refine call_len_set ho hex hd hf (by omega) ⟨.int L.length, H, I.tok _, ⟨_, by rw [hn]⟩, q⟩
/-- sorted(set) -/
def rSortG (K : Fr) (P : Program) (w : World) : List V → Hp → VK → Prop := fun xs H Q => ∃ W S a L, Base K W S H ∧ xs = [V.ref a] ∧ H a = some (SetGO P w a L) ∧ alikeK L = true ∧ ∀ p vs', H p = none → Reps W (sortD (L.map keD)) vs' → Q (.ref p) (upd H p (.lst vs'))
theorem of_keys {P : Program} {w : World} {W : Wd} : ∀ {out : List Value}, (∀ v ∈ out, ∃ k, (mixKind P w).is k v = true) → EachIs (fun v d => ∃ x, RelV x v ∧ Rep W d x) out (out.map fun v => keD (kf (mixKind P w) v))
  | [], _ => .nil
  | v :: out, h => by
    refine .cons ?_ (of_keys fun u hu => h u (List.mem_cons_of_mem _ hu))
    obtain ⟨k, hk⟩ := h v List.mem_cons_self
    show ∃ x, RelV x v ∧ Rep W (keD (kf (mixKind P w) v)) x
    rw [kf_of _ hk]
    refine ⟨kV k, ?_, rep_keD.mpr rfl⟩
    rcases keyIs_shape hk with ⟨i, t, rfl, rfl⟩ | ⟨x, t, rfl, rfl⟩
    · exact ⟨t, rfl⟩
    · exact ⟨t, rfl⟩
theorem cr_sortG (hc : X.calm = true) (hu : X.A.units + 64 < cLine) : CallR X (.builtin "sorted") (rSortG X.KW X.prog X.w) := by
  intro pins s σ H xs us Q I r ⟨W, S, a, L, B, hx, ha, al, q⟩
  subst hx
  rw [L2.Vals.ref1 r]
  obtain ⟨o, es, ep, t, ho, hex, hd, g, pm, nd, hb, hf, hr, hl⟩ := setGO_get I ha
  have hh : X.A.handled = none := I.ok.hd hc
  have hn : es.size = L.length := by rw [← pm.length_eq, List.length_map, Array.length_toList]
  refine Calls.call_function_entry kind_sorted plain_sorted entry_sorted (args_sorted1 _) ?_
  unfold Builtin.«sorted»
  refine wpAny_bind (m := checkCount "sorted" 1 1 _) (wpAny_pure ?_)
  refine wpAny_bind (collect_set (A := X.A.in1) hh ⟨o, ho, hex.1, hd⟩ hf hb hr hl fun s1 vs k1 hz g1 o1 pmv => ?_)
  have hvl : vs.length = L.length := by rw [pmv.length_eq, List.length_map, Array.length_toList]; exact hn
  have hb2 : es.size < 4096 := hb
  have hsz : vs.length ≤ sizeLine := by rw [hvl, ← hn, sizeLine_eq]; omega
  have hkeys : ∀ v ∈ vs, ∃ k, (mixKind X.prog X.w).is k v = true := fun v hv => by
    obtain ⟨e, he, rfl⟩ := List.mem_map.mp (pmv.mem_iff.mp hv)
    obtain ⟨⟨k, hk, _⟩, _⟩ := g e he
    exact ⟨k, hk⟩
  have pk : (vs.map (kf (mixKind X.prog X.w))).Perm L := by
    have q := pmv.map (kf (mixKind X.prog X.w))
    rw [List.map_map] at q
    exact q.trans pm
  have al2 : alikeK (vs.map (kf (mixKind X.prog X.w))) = true := alikeK_sub al fun k hk => pk.mem_iff.mp hk
  have hlk : (vs.map (kf (mixKind X.prog X.w))).length ≤ sizeLine := by rw [List.length_map]; exact hsz
  have ok' := keyOkK_of al2 hlk
  have em : vs.map (fun v => keD (kf (mixKind X.prog X.w) v)) = (vs.map (kf (mixKind X.prog X.w))).map keD := by rw [List.map_map]; rfl
  have e : EachIs (fun v d => ∃ x, RelV x v ∧ Rep W d x) vs ((vs.map (kf (mixKind X.prog X.w))).map keD) := by
    rw [← em]
    exact of_keys hkeys
  refine wpAny_bind (wpAny_newList ?_ hsz)
  have hoL : (s1.heap.push (seqObj "list" vs.toArray 0)).get? s1.heap.objs.size = some (seqObj "list" vs.toArray 0) := Heap.get?_push_size _ rfl
  have kL : ∀ b u, s.heap.get? b = some u → (s1.heap.push (seqObj "list" vs.toArray 0)).get? b = some u := fun b u eb => Heap.get?_push_of_some _ (k1 b u eb)
  have old : ∀ b u, s.heap.get? b = some u → b ≠ s1.heap.objs.size := fun b u eb => Nat.ne_of_lt (Nat.lt_of_lt_of_le (Heap.lt_size eb) hz)
  have I2 : Inv X pins σ H { s1 with heap := PySem.W.sortingHeap (s1.heap.push (seqObj "list" vs.toArray 0)) s1.heap.objs.size vs } :=
    I.call' (ch := []) o1 (Un.kept fun b u eb => PySem.W.sortingHeap_old (old b u eb) (kL b u eb)) (I.hok.kept fun b u eb => PySem.W.sortingHeap_old (old b u eb) (kL b u eb)) (by show AllBare s1.gens; rw [g1]; exact I.bare) (fun _ z => nomatch z)
  have SA : SortsAt X.prog X.w X.A.in1.in1 { s1 with heap := PySem.W.sortingHeap (s1.heap.push (seqObj "list" vs.toArray 0)) s1.heap.objs.size vs } (kindD W ((vs.map (kf (mixKind X.prog X.w))).map keD)) vs := sorts_D I2 B ok' e (by show X.A.units + 2 + 61 < cLine; omega)
  refine wpAny_bind (wpAny_holding (wpAny_call_entry slot_list_sort ⟨_, hoL, rfl⟩ entry_list_sort (PySem.W.list_sort_vals (s := { s1 with heap := s1.heap.push (seqObj "list" vs.toArray 0) }) hoL SA hsz ?_) (args_list_sort _)))
  refine ⟨_, rfl, ?_⟩
  have h2 : EachIs (fun v d => ∃ x, RelV x v ∧ Rep W d x) (sortVals (kindD W ((vs.map (kf (mixKind X.prog X.w))).map keD)) false vs vs) (sortD ((vs.map (kf (mixKind X.prog X.w))).map keD)) :=
    PySem.W.sortVals_each (κ := kindD W ((vs.map (kf (mixKind X.prog X.w))).map keD)) (rev := false) (fun d => tk d) e (each_and (P := fun d => d ∈ ((vs.map (kf (mixKind X.prog X.w))).map keD)) (fun v d hd ⟨x, r1, r2⟩ => kindD_some ok'.eq hd r1 r2) (fun _ h => h) e)
  rw [sortD_perm pk] at h2
  obtain ⟨xs, k3, k2⟩ := of_each h2
  obtain ⟨c, hc'⟩ := sortedHeap_at (vs := vs) (out := (sortVals (kindD W ((vs.map (kf (mixKind X.prog X.w))).map keD)) false vs vs).toArray) hoL
  have hlen : xs.length ≤ sizeLine := by
    rw [k3.length]
    unfold sortD
    rw [List.length_mergeSort, List.length_map, ← hvl]
    exact hsz
  have kk : ∀ b u, s.heap.get? b = some u → (sortedHeap (s1.heap.push (seqObj "list" vs.toArray 0)) s1.heap.objs.size vs (sortVals (kindD W ((vs.map (kf (mixKind X.prog X.w))).map keD)) false vs vs).toArray).get? b = some u := fun b u eb => by
    rw [sortedHeap_old (old b u eb) (by rw [size_push']; exact Nat.lt_succ_of_lt (Nat.lt_of_lt_of_le (Heap.lt_size eb) hz))]
    exact kL b u eb
  have hnone : H s1.heap.objs.size = none := I.hok.fresh hz
  refine wpAny_pure ⟨_, rfl, .ref _, upd H s1.heap.objs.size (.lst xs), I.call' (ch := []) (s' := { s1 with heap := sortedHeap (s1.heap.push (seqObj "list" vs.toArray 0)) s1.heap.objs.size vs (sortVals (kindD W ((vs.map (kf (mixKind X.prog X.w))).map keD)) false vs vs).toArray }) o1 (Un.laid kk hz hnone) (I.hok.laid kk hz ⟨hlen, _, c, k2, hc'⟩) (by show AllBare s1.gens; rw [g1]; exact I.bare) (fun _ z => nomatch z), rfl, q _ _ hnone k3⟩
/-! ### the rules -/
/-- the distinct keys of a list or a tuple of ints or of texts -/
def setO (d : D) : Option (List Key) := (seqD d).bind fun ds => (ksOf ds).bind fun ks => if alikeK ks = true ∧ ks.length + 1 < 4096 then some (metG [] ks) else none
def nSortSet (da : DE) : DN := fun ρ S => (da ρ S).bind fun p => (setO p.1).map fun L => (sortD (L.map keD), p.2)
def dLenSet (da : DE) : DE := fun ρ S => (da ρ S).bind fun p => (setO p.1).map fun L => (.int L.length, p.2)
theorem set_inv {K : Fr} {W : Wd} {S : Sh} {H : Hp} (B : Base K W S H) {d : D} {v : V} {L : List Key} (r : Rep W d v) (h : setO d = some L) : ∃ l ks, v = V.ref l ∧ (SqL K H l (ks.map kV) ∨ SqT K H l (ks.map kV)) ∧ ks.length + 1 < scanBound ∧ L = metG [] ks ∧ alikeK L = true := by
  unfold setO at h
  obtain ⟨ds, h1, h⟩ := bindS h
  obtain ⟨ks, h2, h⟩ := bindS h
  simp only [Option.ite_none_right_eq_some, Option.some.injEq] at h
  obtain ⟨⟨h3, h4⟩, rfl⟩ := h
  obtain ⟨a, vs, rfl, hq, rs⟩ := B.seq r h1
  rw [ksOf_map h2] at rs
  rw [reps_keD rs] at hq
  exact ⟨a, ks, rfl, hq, h4, rfl, alikeK_sub h3 fun k hk => ((metG_mem ks []).mp hk).resolve_left (by simp)⟩
variable {e : Expr} {pos : Pos}
theorem bt_set : bootBuiltins "set" = some (.type "set") := by decide +kernel
theorem bt_len : bootBuiltins "len" = some (.builtin "len") := by decide +kernel
theorem dn_sortSet {p p2 pos2 : Pos} {da : DE} (hc : X.calm = true) (hu : X.A.units + 64 < cLine) (hm : X.mg "sorted" = none) (hm2 : X.mg "set" = none) (ha : PE' X e da) (hg : Gl X "sorted" := by rfl) (hg2 : Gl X "set" := by rfl)
    (he2 : starEach [e] X.env = (false, eval e X.env) :: starEach [] X.env := by rfl) (hpl2 : (backTo pos2 (starEach [] X.env)).any (·.1) = false := by rfl)
    (he : starEach [.Call (.Name "set" p2) [e] [] pos2] X.env = (false, eval (.Call (.Name "set" p2) [e] [] pos2) X.env) :: starEach [] X.env := by rfl) (hpl : (backTo pos (starEach [] X.env)).any (·.1) = false := by rfl) :
    PN X (.Call (.Name "sorted" p) [.Call (.Name "set" p2) [e] [] pos2] [] pos) (nSortSet da) :=
  PE.imp (pe_callB (cr_sortG hc hu) hg hm bt_sorted (pa_cons (pe_callTy (cr_setG hc) hg2 hm2 bt_set (pa_cons ha pa_nil he2) (by decide) (by decide) he2 hpl2) pa_nil he) (by decide) (by decide) he hpl) fun σ H Q => by
  rintro ⟨W, ρ, S, r, S', R, hd, k⟩
  obtain ⟨⟨d, S1⟩, e1, hd⟩ := bindS hd
  obtain ⟨L, e2, hd⟩ := mapS hd
  cases hd
  refine ⟨W, ρ, S, d, _, R, e1, fun W1 v H1 s1 R1 r1 => ?_⟩
  obtain ⟨l, ks, rfl, hq, hb, rfl, al⟩ := set_inv R1.base r1 e2
  refine ⟨l, ks, rfl, hq, hb, fun p hp => ?_⟩
  obtain ⟨B2, s2⟩ := R1.base.alloc (SetGO X.prog X.w p (metG [] ks)) hp
  refine ⟨W1, _, p, metG [] ks, B2, rfl, upd_same, al, fun l2 vs hl hr => ?_⟩
  obtain ⟨B', s'⟩ := B2.alloc (.lst vs) hl
  exact k W1 l2 vs _ ((s1.trans s2).trans s') ⟨B', R1.env⟩ ⟨upd_same, hr, (B2.free hl).1, (B2.free hl).2, (s1.trans s2).back hl⟩
theorem dpe_lenSet {p p2 pos2 : Pos} {da : DE} (hc : X.calm = true) (hm : X.mg "len" = none) (hm2 : X.mg "set" = none) (ha : PE' X e da) (hg : Gl X "len" := by rfl) (hg2 : Gl X "set" := by rfl)
    (he2 : starEach [e] X.env = (false, eval e X.env) :: starEach [] X.env := by rfl) (hpl2 : (backTo pos2 (starEach [] X.env)).any (·.1) = false := by rfl)
    (he : starEach [.Call (.Name "set" p2) [e] [] pos2] X.env = (false, eval (.Call (.Name "set" p2) [e] [] pos2) X.env) :: starEach [] X.env := by rfl) (hpl : (backTo pos (starEach [] X.env)).any (·.1) = false := by rfl) :
    PE' X (.Call (.Name "len" p) [.Call (.Name "set" p2) [e] [] pos2] [] pos) (dLenSet da) :=
  PE.imp (pe_callB cr_lenG hg hm bt_len (pa_cons (pe_callTy (cr_setG hc) hg2 hm2 bt_set (pa_cons ha pa_nil he2) (by decide) (by decide) he2 hpl2) pa_nil he) (by decide) (by decide) he hpl) fun σ H Q => by
  rintro ⟨W, ρ, S, r, S', R, hd, k⟩
  obtain ⟨⟨d, S1⟩, e1, hd⟩ := bindS hd
  obtain ⟨L, e2, hd⟩ := mapS hd
  cases hd
  refine ⟨W, ρ, S, d, _, R, e1, fun W1 v H1 s1 R1 r1 => ?_⟩
  obtain ⟨l, ks, rfl, hq, hb, rfl, al⟩ := set_inv R1.base r1 e2
  refine ⟨l, ks, rfl, hq, hb, fun p hp => ?_⟩
  obtain ⟨B2, s2⟩ := R1.base.alloc (SetGO X.prog X.w p (metG [] ks)) hp
  exact ⟨p, metG [] ks, rfl, upd_same, k W1 _ _ (s1.trans s2) ⟨B2, R1.env⟩ rfl⟩
end
end DL


/-! DL36: list(range(n)), comprehensions with two fors -/
namespace DL
open PySem L2 PyProof.Rows
section
variable {X : Cx} {W0 W W1 : Wd} {S S1 : Sh} {σ : L2.St} {H H1 : Hp} {dl : DA} {a b e : Expr} {pos : Pos} {da : DE} {it it1 : DN} {dt dt1 : DT} {tg tg1 : Tg}
def nListRg (da : DE) : DN := fun ρ S => (da ρ S).bind fun p => match p.1 with
  | .int n => if -(2 ^ 62) ≤ n ∧ n ≤ 2 ^ 24 then some (rngO 0 n.toNat, p.2) else none
  | _ => none
theorem reps_rg {W : Wd} (n : Int) : Reps W (rngO 0 n.toNat) (rgV 0 n) := by
  unfold rngO rgV
  rw [Int.sub_zero]
  generalize n.toNat = k
  have go : ∀ l : List Nat, Reps W (l.map fun i => D.int (0 + (i : Nat))) (l.map fun i => V.int (0 + (i : Nat))) := by
    intro l
    induction l with
    | nil => exact rfl
    | cons x l ih => exact ⟨_, _, rfl, rfl, ih⟩
  exact go _
theorem dn_listRg {p p2 pos2 : Pos} (hc : X.calm = true) (hm : X.mg "list" = none) (hm2 : X.mg "range" = none) (ha : PE' X a da) (hg : Gl X "list" := by rfl) (hg2 : Gl X "range" := by rfl) (na2 : starEach [a] X.env = (false, eval a X.env) :: starEach [] X.env := by rfl)
    (na : starEach [.Call (.Name "range" p2) [a] [] pos2] X.env = (false, eval (.Call (.Name "range" p2) [a] [] pos2) X.env) :: starEach [] X.env := by rfl) :
    PN X (.Call (.Name "list" p) [.Call (.Name "range" p2) [a] [] pos2] [] pos) (nListRg da) := PE.imp (pe_listRg hc hg hm (prg_1 hg2 hm2 ha na2) na) fun σ H Q => by
  rintro ⟨W, ρ, S, r, S', R, hd, k⟩
  obtain ⟨⟨d, S1⟩, e1, hd⟩ := bindS hd
  cases d <;> simp only [reduceCtorEq, Option.ite_none_right_eq_some] at hd
  rename_i n
  obtain ⟨⟨h1, h2⟩, hd⟩ := hd
  cases hd
  refine ⟨W, ρ, S, .int n, _, R, e1, fun W1 v H1 s1 R1 r1 => ?_⟩
  cases r1
  refine ⟨n, rfl, ⟨by omega, by omega, by omega, by omega, by omega⟩, fun q hq => ?_⟩
  obtain ⟨B', s'⟩ := R1.base.alloc (.lst (rgV 0 n)) hq
  exact k W1 q _ _ (s1.trans s') ⟨B', R1.env⟩ ⟨upd_same, reps_rg n, (R1.base.free hq).1, (R1.base.free hq).2, s1.back hq⟩
/-- nothing is claimed -/
theorem Stand.ok0N {P : Program} {w : World} {K : Fr} {mg : Str → Option Value} {base : Heap} {x : Str} {st : Stmt} {ps N : List Str} {np : Nat} (F : Stand K mg x st ps) (S : FnScope N ps (defScope st)) (h1 : ps.length = np := by rfl) : Callee P w K mg base x 1 ps (spN K np fun _ _ => none) := by
  subst h1
  obtain ⟨f, fd, h1, h2, h3⟩ := F.ex
  exact ⟨f, fd, h1.ok S (fun vs H Q E h => spN_len h) fun cdv A outer s H vs Q E hr h => ⟨tNever, pss_never, by
    obtain ⟨W, S, ds, r, S', B, q, l, e, _⟩ := h
    cases e⟩, h2, h1.kp, h3, DL.FunD.lk h1⟩
/-! two fors -/
def loopC2 (tg : Tg) (tt : DT) (it1 : DN) (tg1 : Tg) (vs1 : List Nat) (tt1 : DT) (el : DE) (ρ : Env') : List D → List D → Sh → Option (List D × Sh)
  | [], acc, S => some (acc, S)
  | d :: r, acc, S => (bindT tg d).bind fun u => (tt (putD ρ u) S).bind fun p => if p.1 then (it1 (putD ρ u) p.2).bind fun q => (loopC tg1 tt1 el (wipeD (putD ρ u) vs1) q.1 acc q.2).bind fun z => loopC2 tg tt it1 tg1 vs1 tt1 el ρ r z.1 z.2 else loopC2 tg tt it1 tg1 vs1 tt1 el ρ r acc p.2
def nComp2 (it : DN) (tg : Tg) (vs : List Nat) (tt : DT) (it1 : DN) (tg1 : Tg) (vs1 : List Nat) (tt1 : DT) (el : DE) : DN := fun ρ S => (it ρ S).bind fun p => loopC2 tg tt it1 tg1 vs1 tt1 el (wipeD ρ vs) p.1 [] p.2
theorem comp2_of {K : Fr} {ks vs1 : List Nat} (hv : (tgSlots tg).all (fun i => ks.contains i) = true) (hv1 : (tgSlots tg1).all (fun i => vs1.contains i) = true) {σ : L2.St} {H : Hp} {Q : VK} (h : liftN K (nComp2 it tg ks dt it1 tg1 vs1 dt1 da) σ H Q) :
    tLc2 (liftI K it) (tgOf K tg) (liftT K dt) (liftI K it1) (tgOf K tg1) (liftT K dt1) (liftE K da) ks vs1 σ H Q := by
  obtain ⟨W, ρ, S, fin, S', R, hd, k⟩ := h
  obtain ⟨⟨ds, S1⟩, e1, hd⟩ := bindS hd
  refine ⟨W, ρ, S, ds, S1, R, e1, fun W1 H1 J s1 R1 w D hD => ?_⟩
  have hD0 : H D = none := by
    cases q : H D with
    | none => rfl
    | some o =>
      obtain ⟨o', z⟩ := s1.ex D o q
      rw [hD] at z; cases z
  obtain ⟨BD, sD⟩ := R1.base.alloc (.lst []) hD
  obtain ⟨f1, f2⟩ := R1.base.free hD
  -- the list made so far stands through a step
  have stay : ∀ {acc : List V} {Wa Wb : Wd} {Ha Hb : Hp}, Ha D = some (.lst acc) → Wa.T D = none → D ∉ Wa.m → Stp Wa Wb Ha Hb → Hb D = some (.lst acc) ∧ Wb.T D = none ∧ D ∉ Wb.m := fun {acc Wa Wb Ha Hb} q1 q2 q3 q4 => by
    refine ⟨q4.keep D _ q1 q3, ?_, fun z => ?_⟩
    · cases q : Wb.T D with
      | none => rfl
      | some o =>
        rcases q4.newT D o q with z | z
        · rw [q2] at z; cases z
        · rw [q1] at z; cases z
    · rcases q4.new D z with z | z
      · exact q3 z
      · rw [q1] at z; cases z
  have slots : ∀ {g : Tg} {vs : List Nat} {d : DL.D} {u : List (Nat × DL.D)} {wv : List (Nat × V)} {W : Wd}, (tgSlots g).all (fun i => vs.contains i) = true → bindT g d = some u → RepU W u wv → ∀ p, p ∈ wv → p.1 ∈ vs := fun {g vs d u wv W} hv h1 hw p hp => by
    have : p.1 ∈ tgSlots g := by
      rw [← bindT_slots g _ u h1, ← hw.slots]
      exact List.mem_map_of_mem hp
    have := List.all_eq_true.mp hv _ this
    simpa using this
  refine ⟨fun i m H' => m = ds.length - i ∧ i ≤ ds.length ∧ ∃ W' S2 acc accD, Stp W W' H H' ∧ Le W1 W' ∧ Base K W' S2 H' ∧ H' D = some (.lst acc) ∧ Reps W' accD acc ∧ W'.T D = none ∧ D ∉ W'.m ∧ loopC2 tg dt it1 tg1 vs1 dt1 da (wipeD ρ ks) (ds.drop i) accD S2 = some (fin, S'),
    ⟨ds.length, by simp, Nat.zero_le _, W1, S1, [], [], s1.trans sD, .refl _, BD, upd_same, rfl, f1, f2, by simpa using hd⟩, ?_⟩
  rintro i m H' ⟨rfl, hi', W', S2, acc, accD, s', l', B', hacc, racc, t', m', hd'⟩
  obtain ⟨w1, w2⟩ := w i W' S2 H' l' B'
  by_cases hlt : i < ds.length
  · obtain ⟨g, y⟩ := w1 _ (List.getElem?_eq_getElem hlt)
    rw [List.drop_eq_getElem_cons hlt, loopC2] at hd'
    obtain ⟨u, h1, hd'⟩ := bindS hd'
    obtain ⟨⟨tb, S3⟩, h2, hd'⟩ := bindS hd'
    refine .inr ⟨g, fun H4 => ∃ W4 S4 acc4 accD4, Stp W W4 H H4 ∧ Le W1 W4 ∧ Base K W4 S4 H4 ∧ H4 D = some (.lst acc4) ∧ Reps W4 accD4 acc4 ∧ W4.T D = none ∧ D ∉ W4.m ∧ loopC2 tg dt it1 tg1 vs1 dt1 da (wipeD ρ ks) (ds.drop (i + 1)) accD4 S4 = some (fin, S'), fun H4 q => ⟨ds.length - (i + 1), by omega, rfl, hlt, q⟩, fun x H3 hy => ?_⟩
    obtain ⟨W3, s3, B3, r3⟩ := y x H3 hy
    obtain ⟨a3, t3, m3⟩ := stay hacc t' m' s3
    refine tg_run B3 tg _ x _ u _ h1 r3 fun wv hw => ?_
    refine ⟨(wipe_put (slots hv h1 hw)).trans (wipe_wipe _ σ), ?_⟩
    have E3 : EnvR W3 (putD (wipeD ρ ks) u) (putV (wipe σ ks) wv) := EnvR.puts hw ((R1.env.mono (l'.trans s3.le)).wipes _)
    refine ⟨W3, _, S2, tb, S3, ⟨B3, E3⟩, h2, fun W4 H4 s4 R4 => ?_⟩
    obtain ⟨a4, t4, m4⟩ := stay a3 t3 m3 s4
    have st4 := (s'.trans s3).trans s4
    have l4 := (l'.trans s3.le).trans s4.le
    have racc4 : Reps W4 accD acc := racc.mono (s3.le.trans s4.le)
    cases tb with
    | false =>
      rw [if_neg Bool.false_ne_true]
      simp only [Bool.false_eq_true, if_false] at hd'
      exact ⟨W4, S3, acc, accD, st4, l4, R4.base, a4, racc4, t4, m4, hd'⟩
    | true =>
      rw [if_pos rfl]
      simp only [if_true] at hd'
      obtain ⟨⟨ds1, S5⟩, h5, hd'⟩ := bindS hd'
      obtain ⟨⟨fin1, S6⟩, h6, hd'⟩ := bindS hd'
      refine ⟨W4, _, S3, ds1, S5, R4, h5, fun W5 H5 J1 s5 R5 w5 => ?_⟩
      obtain ⟨a5, t5, m5⟩ := stay a4 t4 m4 s5
      refine ⟨fun j m H' => m = ds1.length - j ∧ j ≤ ds1.length ∧ ∃ W' S2 acc accD, Stp W W' H H' ∧ Le W5 W' ∧ Base K W' S2 H' ∧ H' D = some (.lst acc) ∧ Reps W' accD acc ∧ W'.T D = none ∧ D ∉ W'.m ∧ loopC tg1 dt1 da (wipeD (putD (wipeD ρ ks) u) vs1) (ds1.drop j) accD S2 = some (fin1, S6),
        ⟨ds1.length, by simp, Nat.zero_le _, W5, S5, acc, accD, st4.trans s5, .refl _, R5.base, a5, racc4.mono s5.le, t5, m5, by simpa using h6⟩, ?_⟩
      rintro j m H6 ⟨rfl, hj, W6, S7, acc6, accD6, st6, l6, B6, a6, racc6, t6, m6, hd6⟩
      obtain ⟨y1, y2⟩ := w5 j W6 S7 H6 l6 B6
      by_cases hlt1 : j < ds1.length
      · obtain ⟨g1, yy⟩ := y1 _ (List.getElem?_eq_getElem hlt1)
        rw [List.drop_eq_getElem_cons hlt1, loopC] at hd6
        obtain ⟨u1, k1, hd6⟩ := bindS hd6
        obtain ⟨⟨tb1, S8⟩, k2, hd6⟩ := bindS hd6
        refine .inr ⟨g1, fun H' => ∃ W' S2 acc accD, Stp W W' H H' ∧ Le W5 W' ∧ Base K W' S2 H' ∧ H' D = some (.lst acc) ∧ Reps W' accD acc ∧ W'.T D = none ∧ D ∉ W'.m ∧ loopC tg1 dt1 da (wipeD (putD (wipeD ρ ks) u) vs1) (ds1.drop (j + 1)) accD S2 = some (fin1, S6), fun H' q => ⟨ds1.length - (j + 1), by omega, rfl, hlt1, q⟩, fun x1 H7 hy1 => ?_⟩
        obtain ⟨W7, s7, B7, r7⟩ := yy x1 H7 hy1
        obtain ⟨a7, t7, m7⟩ := stay a6 t6 m6 s7
        refine tg_run B7 tg1 _ x1 _ u1 _ k1 r7 fun wv1 hw1 => ?_
        refine ⟨(wipe_put (slots hv1 k1 hw1)).trans (wipe_wipe _ _), ?_⟩
        have E7 : EnvR W7 (putD (wipeD (putD (wipeD ρ ks) u) vs1) u1) (putV (wipe (putV (wipe σ ks) wv) vs1) wv1) := EnvR.puts hw1 ((R5.env.mono (l6.trans s7.le)).wipes _)
        refine ⟨W7, _, S7, tb1, S8, ⟨B7, E7⟩, k2, fun W8 H8 s8 R8 => ?_⟩
        obtain ⟨a8, t8, m8⟩ := stay a7 t7 m7 s8
        have st8 := (st6.trans s7).trans s8
        have l8 := (l6.trans s7.le).trans s8.le
        have racc8 : Reps W8 accD6 acc6 := racc6.mono (s7.le.trans s8.le)
        cases tb1 with
        | false =>
          rw [if_neg Bool.false_ne_true]
          simp only [Bool.false_eq_true, if_false] at hd6
          exact ⟨W8, S8, acc6, accD6, st8, l8, R8.base, a8, racc8, t8, m8, hd6⟩
        | true =>
          rw [if_pos rfl]
          simp only [if_true] at hd6
          obtain ⟨⟨y9, S9⟩, k3, hd6⟩ := bindS hd6
          simp only [Option.ite_none_right_eq_some] at hd6
          obtain ⟨hsz, hd6⟩ := hd6
          refine ⟨W8, _, S8, y9, S9, R8, k3, fun W9 v9 H9 s9 R9 r9 => ?_⟩
          obtain ⟨a9, t9, m9⟩ := stay a8 t8 m8 s9
          have racc9 : Reps W9 accD6 acc6 := racc8.mono s9.le
          have st9 := st8.trans s9
          refine ⟨acc6, a9, by rw [racc6.length]; exact hsz, W9, S9, acc6 ++ [v9], accD6 ++ [y9], ⟨st9.le, fun b o h n => ?_, st9.new, fun b o h => ?_, st9.newT⟩, l8.trans s9.le, R9.base.put t9 m9 (fun x ys z => by rw [a9] at z; cases z), upd_same, racc9.append (Reps.one r9), t9, m9, hd6⟩
          · have ne : b ≠ D := fun e => by rw [e, hD0] at h; cases h
            rw [upd_ne ne]
            exact st9.keep b o h n
          · have ne : b ≠ D := fun e => by rw [e, hD0] at h; cases h
            rw [upd_ne ne]
            exact st9.ex b o h
      · have e : j = ds1.length := by omega
        subst e
        rw [List.drop_length, loopC] at hd6
        cases hd6
        exact .inl ⟨y2 (by simp), W6, S6, acc6, fin1, st6, (l4.trans s5.le).trans l6, B6, a6, racc6, t6, m6, hd'⟩
  · have e : i = ds.length := by omega
    subst e
    rw [List.drop_length, loopC2] at hd'
    cases hd'
    exact .inl ⟨w2 (by simp), k W' D acc H' s' ⟨B', R1.env.mono l'⟩ ⟨hacc, racc, t', m', hD0⟩⟩
theorem dn_comp2 {elt tge iter tge1 iter1 : Expr} {ifs ifs1 : List Expr} {scope : Scope} {own : List (Str × Nat)} {vs1 : List Nat} (hc : X.calm = true) (hN : X.N.Nodup) (hi : PI' X tge iter it) (ok : BlkOk X.N X.env.scope scope own)
    (hg : ∀ (s : Shared) (H : Hp) (C : Addr) (cl : List (Str × Addr)) (fp : List Addr), PG (X.blk s H scope (compEnvC scope cl C X.env) fp) tge (tgOf X.KW tg)) (ht : ∀ (s : Shared) (H : Hp) (C : Addr) (cl : List (Str × Addr)) (fp : List Addr), PTs (X.blk s H scope (compEnvC scope cl C X.env) fp) ifs (liftT X.KW dt))
    (hi1 : ∀ (s : Shared) (H : Hp) (C : Addr) (cl : List (Str × Addr)) (fp : List Addr), PI' (X.blk s H scope (compEnvC scope cl C X.env) fp) tge1 iter1 it1)
    (hg1 : ∀ (s : Shared) (H : Hp) (C : Addr) (cl : List (Str × Addr)) (fp : List Addr), PG (X.blk s H scope (compEnvC scope cl C X.env) fp) tge1 (tgOf X.KW tg1)) (ht1 : ∀ (s : Shared) (H : Hp) (C : Addr) (cl : List (Str × Addr)) (fp : List Addr), PTs (X.blk s H scope (compEnvC scope cl C X.env) fp) ifs1 (liftT X.KW dt1))
    (he : ∀ (s : Shared) (H : Hp) (C : Addr) (cl : List (Str × Addr)) (fp : List Addr), PE' (X.blk s H scope (compEnvC scope cl C X.env) fp) elt da) (hv : (tgSlots tg).all (fun i => (own.map (·.2)).contains i) = true := by rfl) (hv1 : (tgSlots tg1).all (fun i => vs1.contains i) = true := by rfl) (hvv : ∀ i ∈ vs1, i ∈ own.map (·.2) := by decide)
    (hs : ∀ x, foldedSetIterable iter X.env x = pure x := by intro _; rfl) (hs1 : ∀ env x, foldedSetIterable iter1 env x = pure x := by intro _ _; rfl) :
    PN X (.ListComp elt [⟨tge, iter, ifs, 0⟩, ⟨tge1, iter1, ifs1, 0⟩] scope pos) (nComp2 it tg (own.map (·.2)) dt it1 tg1 vs1 dt1 da) :=
  PE.imp (pe_lc2 (te := liftE X.KW da) (tt := liftT X.KW dt) (g := tgOf X.KW tg) (tt1 := liftT X.KW dt1) (g1 := tgOf X.KW tg1) hc hN hi ok hvv hg ht hi1 hg1 ht1 he hs hs1) fun σ H Q => comp2_of hv hv1
theorem asg_comp2 {i : Nat} {y : Str} {py spos : Pos} {elt tge iter tge1 iter1 : Expr} {ifs ifs1 : List Expr} {scope : Scope} {own : List (Str × Nat)} {vs1 : List Nat} (hc : X.calm = true) (hN : X.N.Nodup) (hy : X.N[i]? = some y) (hyl : X.env.scope.names.lookup y = some .local)
    (hsw : swapsWith (.ListComp elt [⟨tge, iter, ifs, 0⟩, ⟨tge1, iter1, ifs1, 0⟩] scope pos) (some (.Name y py)) spos.line X.env = pure true) (hi : PI' X tge iter it) (ok : BlkOk X.N X.env.scope scope own)
    (hg : ∀ (s : Shared) (H : Hp) (C : Addr) (cl : List (Str × Addr)) (fp : List Addr), PG (X.blk s H scope (compEnvC scope cl C X.env) fp) tge (tgOf X.KW tg)) (ht : ∀ (s : Shared) (H : Hp) (C : Addr) (cl : List (Str × Addr)) (fp : List Addr), PTs (X.blk s H scope (compEnvC scope cl C X.env) fp) ifs (liftT X.KW dt))
    (hi1 : ∀ (s : Shared) (H : Hp) (C : Addr) (cl : List (Str × Addr)) (fp : List Addr), PI' (X.blk s H scope (compEnvC scope cl C X.env) fp) tge1 iter1 it1)
    (hg1 : ∀ (s : Shared) (H : Hp) (C : Addr) (cl : List (Str × Addr)) (fp : List Addr), PG (X.blk s H scope (compEnvC scope cl C X.env) fp) tge1 (tgOf X.KW tg1)) (ht1 : ∀ (s : Shared) (H : Hp) (C : Addr) (cl : List (Str × Addr)) (fp : List Addr), PTs (X.blk s H scope (compEnvC scope cl C X.env) fp) ifs1 (liftT X.KW dt1))
    (he : ∀ (s : Shared) (H : Hp) (C : Addr) (cl : List (Str × Addr)) (fp : List Addr), PE' (X.blk s H scope (compEnvC scope cl C X.env) fp) elt da) (hv : (tgSlots tg).all (fun i => (own.map (·.2)).contains i) = true := by rfl) (hv1 : (tgSlots tg1).all (fun i => vs1.contains i) = true := by rfl) (hvv : ∀ i ∈ vs1, i ∈ own.map (·.2) := by decide)
    (hs : ∀ x, foldedSetIterable iter X.env x = pure x := by intro _; rfl) (hs1 : ∀ env x, foldedSetIterable iter1 env x = pure x := by intro _ _; rfl) :
    PS X (.Assign [.Name y py] (.ListComp elt [⟨tge, iter, ifs, 0⟩, ⟨tge1, iter1, ifs1, 0⟩] scope pos) spos) (tAsg (liftN X.KW (nComp2 it tg (own.map (·.2)) dt it1 tg1 vs1 dt1 da)) (gName i)) :=
  PS.imp (ps_setLc2 (te := liftE X.KW da) (tt := liftT X.KW dt) (g := tgOf X.KW tg) (tt1 := liftT X.KW dt1) (g1 := tgOf X.KW tg1) hc hN hy hyl hsw hi ok hvv hg ht hi1 hg1 ht1 he hs hs1) fun D σ H => comp2_of hv hv1
end
end DL


/-! DL37: sorted({elt for .. for ..}) -/
namespace DL
open PySem PySem.Spec L2 PyProof.Rows
/-- one more key -/
def putG {K : Type} [DecidableEq K] (L : List K) (k : K) : List K := if k ∈ L then L else L ++ [k]
theorem metG_append {K : Type} [DecidableEq K] : ∀ (ks acc : List K) (k : K), metG acc (ks ++ [k]) = putG (metG acc ks) k
  | [], acc, k => rfl
  | x :: ks, acc, k => metG_append ks _ k
theorem compTurnS2_out (elt t0 i0 t1 i1 : Expr) (ifs0 ifs1 : List Expr) (scope : Scope) (pos : Pos) (it acc : Value) (env : Env) :
    compTurn (.SetComp elt [⟨t0, i0, ifs0, 0⟩, ⟨t1, i1, ifs1, 0⟩] scope pos) 0 it acc env = (do
      standAt i0.pos
      match ← pyNext it with
      | none => pure (.done .next)
      | some v =>
        letOwnedTupleGo t0 it v
        assign t0 env v
        let mut ok := true
        for c in ifs0 do
          if ok then ok ← isTrue c env (eval c env)
        if ok then
          let x ← eval i1 env
          standAt i1.pos
          let x ← foldedSetIterable i1 env x
          let _ ← runOwn (.compStart (.SetComp elt [⟨t0, i0, ifs0, 0⟩, ⟨t1, i1, ifs1, 0⟩] scope pos) 1 (← holding [x] (pyIter x)) acc env) env
        again (.compLoop (.SetComp elt [⟨t0, i0, ifs0, 0⟩, ⟨t1, i1, ifs1, 0⟩] scope pos) 0 it acc env)) := by rfl
theorem compTurnS2_in (elt t0 i0 t1 i1 : Expr) (ifs0 ifs1 : List Expr) (scope : Scope) (pos : Pos) (it acc : Value) (env : Env) :
    compTurn (.SetComp elt [⟨t0, i0, ifs0, 0⟩, ⟨t1, i1, ifs1, 0⟩] scope pos) 1 it acc env = (do
      standAt i1.pos
      match ← pyNext it with
      | none => pure (.done .next)
      | some v =>
        letOwnedTupleGo t1 it v
        assign t1 env v
        let mut ok := true
        for c in ifs1 do
          if ok then ok ← isTrue c env (eval c env)
        if ok then
          (do let v ← eval elt env; standAt elt.pos; let _ ← call (.builtin "set.add") [acc, v])
        again (.compLoop (.SetComp elt [⟨t0, i0, ifs0, 0⟩, ⟨t1, i1, ifs1, 0⟩] scope pos) 1 it acc env)) := by rfl

section
variable {prog : Program} {w : World} {A : Around} {R : Result → Shared → Prop} {s : Shared} {elt t0 i0 t1 i1 : Expr} {ifs0 ifs1 : List Expr} {scope : Scope} {pos : Pos} {it acc : Value} {env : Env}
/-- the loop of the first clause -/
theorem compLoopS2_out (hs : ∀ x, foldedSetIterable i1 env x = pure x) (I : Nat → Shared → Prop)
    (turn : ∀ n s, I n s → wpAny (model prog w) A (pyNext it) (fun r s₁ => match r with
      | none => R (.ok .next) s₁
      | some v => wpAny (model prog w) A (letOwnedTupleGo t0 it v) (fun _ s₁' => wpAny (model prog w) A (assign t0 env v) (fun _ s₂ =>
          wpAny (model prog w) A (forIn ifs0 true fun c r => if r = true then do let ok ← isTrue c env (eval c env); pure (ForInStep.yield ok) else pure (ForInStep.yield r)) (fun ok s₃ =>
            if ok = true then wpAny (model prog w) A (eval i1 env) (fun x s₄ => wpAny (model prog w) A (pyIter x) (fun it1 s₅ =>
              codeAny (model prog w) A (.compStart (.SetComp elt [⟨t0, i0, ifs0, 0⟩, ⟨t1, i1, ifs1, 0⟩] scope pos) 1 it1 acc env) (fun r s' => match r with
                | .ok _ => ∃ m, m < n ∧ I m s'
                | .error _ => False) s₅) (notedBy (model prog w) A env fun e s' => R (.error e) s') s₄) (notedBy (model prog w) A env fun e s' => R (.error e) s') s₃
            else ∃ m, m < n ∧ I m s₃) (notedBy (model prog w) A env fun e s' => R (.error e) s') s₂) (notedBy (model prog w) A env fun e s' => R (.error e) s') s₁') (notedBy (model prog w) A env fun e s' => R (.error e) s') s₁) (notedBy (model prog w) A env fun e s' => R (.error e) s') s)
    (n : Nat) (h : I n s) :
    codeAny (model prog w) A (.compLoop (.SetComp elt [⟨t0, i0, ifs0, 0⟩, ⟨t1, i1, ifs1, 0⟩] scope pos) 0 it acc env) R s := by
  refine codeAny_loop rfl I (fun n s hI => ?_) n h
  show wpAny _ A ((compTurn (.SetComp elt [⟨t0, i0, ifs0, 0⟩, ⟨t1, i1, ifs1, 0⟩] scope pos) 0 it acc env).onRaise (fun x => do noteFrame x env; theTreesLotGoes x)) _ _ s
  refine wpAny_noted ?_
  rw [compTurnS2_out]
  refine wpAny_bind (wpAny_standAt (wpAny_bind (wpAny_mono (turn n s hI) (fun r s₁ h₁ => ?_) fun _ _ h' => h')))
  cases r with
  | none => exact wpAny_pure h₁
  | some v =>
    refine wpAny_bind (wpAny_mono h₁ (fun _ s₁' h₁' => ?_) fun _ _ h' => h')
    refine wpAny_bind (wpAny_mono h₁' (fun _ s₂ h₂ => wpAny_bind (wpAny_mono h₂ (fun ok s₃ h₃ => ?_) fun _ _ h' => h')) fun _ _ h' => h')
    cases ok with
    | false => exact wpAny_pure ⟨rfl, h₃⟩
    | true =>
      refine wpAny_bind (wpAny_mono h₃ (fun x s₄ h₄ => ?_) fun _ _ h' => h')
      refine wpAny_bind (wpAny_standAt (wpAny_bind (wpAny_of_eq (hs x) (wpAny_bind (wpAny_holding (wpAny_mono h₄ (fun it1 s₅ h₅ => ?_) fun _ _ h' => h'))))))
      refine wpAny_bind (wpAny_runOwn ?_)
      rw [Around.mark_none]
      refine codeAny_mono h₅ fun r s' hr => ?_
      cases r with
      | ok f =>
        first
          | exact wpAny_pure ⟨rfl, hr⟩
          | exact wpAny_bind (wpAny_pure (wpAny_pure ⟨rfl, hr⟩))
      | error e => exact hr.elim
/-- the loop of the second -/
theorem compLoopS2_in (I : Nat → Shared → Prop)
    (turn : ∀ n s, I n s → wpAny (model prog w) A (pyNext it) (fun r s₁ => match r with
      | none => R (.ok .next) s₁
      | some v => wpAny (model prog w) A (letOwnedTupleGo t1 it v) (fun _ s₁' => wpAny (model prog w) A (assign t1 env v) (fun _ s₂ =>
          wpAny (model prog w) A (forIn ifs1 true fun c r => if r = true then do let ok ← isTrue c env (eval c env); pure (ForInStep.yield ok) else pure (ForInStep.yield r)) (fun ok s₃ =>
            if ok = true then wpAny (model prog w) A (eval elt env) (fun x s₄ =>
              wpAny (model prog w) A (call (.builtin "set.add") [acc, x]) (fun _ s₅ => ∃ m, m < n ∧ I m s₅) (notedBy (model prog w) A env fun e s' => R (.error e) s') s₄) (notedBy (model prog w) A env fun e s' => R (.error e) s') s₃
            else ∃ m, m < n ∧ I m s₃) (notedBy (model prog w) A env fun e s' => R (.error e) s') s₂) (notedBy (model prog w) A env fun e s' => R (.error e) s') s₁') (notedBy (model prog w) A env fun e s' => R (.error e) s') s₁) (notedBy (model prog w) A env fun e s' => R (.error e) s') s)
    (n : Nat) (h : I n s) :
    codeAny (model prog w) A (.compLoop (.SetComp elt [⟨t0, i0, ifs0, 0⟩, ⟨t1, i1, ifs1, 0⟩] scope pos) 1 it acc env) R s := by
  refine codeAny_loop rfl I (fun n s hI => ?_) n h
  show wpAny _ A ((compTurn (.SetComp elt [⟨t0, i0, ifs0, 0⟩, ⟨t1, i1, ifs1, 0⟩] scope pos) 1 it acc env).onRaise (fun x => do noteFrame x env; theTreesLotGoes x)) _ _ s
  refine wpAny_noted ?_
  rw [compTurnS2_in]
  refine wpAny_bind (wpAny_standAt (wpAny_bind (wpAny_mono (turn n s hI) (fun r s₁ h₁ => ?_) fun _ _ h' => h')))
  cases r with
  | none => exact wpAny_pure h₁
  | some v =>
    refine wpAny_bind (wpAny_mono h₁ (fun _ s₁' h₁' => ?_) fun _ _ h' => h')
    refine wpAny_bind (wpAny_mono h₁' (fun _ s₂ h₂ => wpAny_bind (wpAny_mono h₂ (fun ok s₃ h₃ => ?_) fun _ _ h' => h')) fun _ _ h' => h')
    cases ok with
    | false => exact wpAny_pure ⟨rfl, h₃⟩
    | true =>
      exact wpAny_bind (wpAny_bind (wpAny_mono h₃ (fun x s₄ h₄ => wpAny_bind (wpAny_standAt (wpAny_bind (wpAny_mono h₄ (fun _ s₅ h₅ => wpAny_pure (wpAny_pure ⟨rfl, h₅⟩)) fun _ _ h' => h')))) fun _ _ h' => h'))
/-- the second clause's start -/
theorem compStartS1_ok (h0 : codeAny (model prog w) A (.compLoop (.SetComp elt [⟨t0, i0, ifs0, 0⟩, ⟨t1, i1, ifs1, 0⟩] scope pos) 1 it acc env) R s)
    (h : wpAny (model prog w) A (pyIter it) (fun it' s' => codeAny (model prog w) A (.compLoop (.SetComp elt [⟨t0, i0, ifs0, 0⟩, ⟨t1, i1, ifs1, 0⟩] scope pos) 1 it' acc env) R s')
      (notedBy (model prog w) A env fun x s' => R (.error x) s') s) :
    codeAny (model prog w) A (.compStart (.SetComp elt [⟨t0, i0, ifs0, 0⟩, ⟨t1, i1, ifs1, 0⟩] scope pos) 1 it acc env) R s := by
  refine codeAny_of_tree ?_
  show wpAny _ _ ((compStart (.SetComp elt [⟨t0, i0, ifs0, 0⟩, ⟨t1, i1, ifs1, 0⟩] scope pos) 1 it acc env).onRaise (fun x => do noteFrame x env; standAt theWindowsPlace)) _ _ s
  refine wpAny_notedAt ?_
  unfold compStart
  show wpAny _ _ (ask >>= _) _ _ s
  refine wpAny_bind (wpAny_askSetting (wpAny_ite ?_))
  split
  · first
      | exact wpAny_bind (wpAny_pure (wpAny_pure (And.intro rfl h0)))
      | exact wpAny_pure (And.intro rfl h0)
  · first
      | exact wpAny_bind (wpAny_rule (wpAny_bind (wpAny_standAt (wpAny_bind (wpAny_mono h (fun it' s' h' => wpAny_pure (And.intro rfl h')) fun _ _ x => x)))))
      | (refine wpAny_bind (wpAny_rule ?_); show wpAny _ _ (standAt i1.pos >>= _) _ _ s; exact wpAny_bind (wpAny_standAt (wpAny_bind (wpAny_mono h (fun it' s' h' => wpAny_pure (And.intro rfl h')) fun _ _ x => x))))
end


section
variable {P : Program} {w : World} {A : Around} {E : Value → Shared → Prop} {s : Shared}
/-- found.add(v) -/
theorem setG_add {a : Addr} {L : List Key} {k : Key} {v : Value} {Q : Value → Shared → Prop} (hkey : (mixKind P w).is k v = true) (hsc : v.scannable = true) (R : SetG (mixKind P w) s.heap a L) (room : L.length + 1 < scanBound)
    (hQ : ∀ h', Heap.SameBut a s.heap h' → SetG (mixKind P w) h' a (putG L k) → Q .none { s with heap := h', toks := s.toks + 1 }) :
    wpAny (model P w) A (call (.builtin "set.add") [.ref a, v]) Q E s := by
  have hS := R.setOf
  refine wpAny_call_entry PySem.F.slot_set_add hS.typeIs PySem.F.entry_set_add ?_ (PySem.F.args_set_add_2 _ _)
  unfold Builtin.«set.add» Builtin.Frozenset.oneOther
  simp only [List.isEmpty_nil, bind_assoc]
  unfold Builtin.Frozenset.addrOf setAdd
  refine wpAny_bind (wpAny_pure ?_)
  try dsimp only
  refine wpAny_bind (wpAny_pure ?_)
  try dsimp only
  refine wpAny_bind ?_
  refine wpAny_holding ?_
  refine wpAny_bind ((mixKind P w).pyHash hkey ?_)
  refine setG_add_hashed (s := { s with toks := s.toks + 1 }) hkey hsc R room fun h' sb r => ?_
  show wpAny _ _ (ret Value.none) _ _ _
  exact wpAny_pure ⟨_, rfl, hQ h' sb r⟩
end
section
variable {X : Cx}
theorem addG_ok {pins : List (Addr × Obj)} {σ : L2.St} {H : Hp} {s : Shared} {E : Value → Shared → Prop} {D : Addr} {L : List Key} {k : Key} {u : Value} {Q : Value → Shared → Prop} (I : Inv X pins σ H s) (hD : H D = some (SetGO X.prog X.w D L)) (room : L.length + 1 < scanBound) (r : RelV (kV k) u)
    (h : ∀ s', Inv X pins σ (upd H D (SetGO X.prog X.w D (putG L k))) s' → Q .none s') : wpAny (model X.prog X.w) X.A (call (.builtin "set.add") [.ref D, u]) Q E s := by
  have R := setGO_get I hD
  obtain ⟨h1, h2⟩ := vals_key r
  refine setG_add h1 h2 R room fun h' sb new => ?_
  have he : ∃ u, h'.get? D = some u := by
    have ⟨o, _, _, _, ho, _⟩ := new
    exact ⟨o, ho⟩
  exact h _ (I.write (e := D) (t' := s.toks + 1) (by rw [hD]; trivial) (.inl rfl) (fun b u hb hu => (sb.2 b hb).trans hu) he (setGO_new new))
end
section
variable {X : Cx}
/-- {elt for tg in iter if .. for tg1 in iter1 if ..}, elt a key -/
def tSc2 (P : Program) (w : World) (wi : TI) (g : TG) (tt : TT) (wi1 : TI) (g1 : TG) (tt1 : TT) (te : TE) (vs vs1 : List Nat) : TE := fun σ H Q => wi σ H fun J H1 => ∀ D, H1 D = none → ∃ W : Nat → Nat → Hp → Prop, (∃ m, W 0 m (upd H1 D (SetGO P w D []))) ∧ ∀ i m H, W i m H →
  (J.stop i H ∧ Q (.ref D) H) ∨ (J.go i H ∧ ∃ Nx : Hp → Prop, (∀ H', Nx H' → ∃ m', m' < m ∧ W (i + 1) m' H') ∧ ∀ x H', J.yld i H x H' → g x (wipe σ vs) H' fun σ2 H2 => wipe σ2 vs = wipe σ vs ∧ tt σ2 H2 fun b H3 =>
    if b = true then wi1 σ2 H3 fun J1 H4 => ∃ W1 : Nat → Nat → Hp → Prop, (∃ m, W1 0 m H4) ∧ ∀ j k H, W1 j k H →
      (J1.stop j H ∧ Nx H) ∨ (J1.go j H ∧ ∃ Nx1 : Hp → Prop, (∀ H', Nx1 H' → ∃ k', k' < k ∧ W1 (j + 1) k' H') ∧ ∀ x H', J1.yld j H x H' → g1 x (wipe σ2 vs1) H' fun σ3 H5 => wipe σ3 vs1 = wipe σ2 vs1 ∧ tt1 σ3 H5 fun b H6 =>
        if b = true then te σ3 H6 fun y H7 => ∃ (k : Key) (L : List Key), y = kV k ∧ H7 D = some (SetGO P w D L) ∧ L.length + 1 < scanBound ∧ Nx1 (upd H7 D (SetGO P w D (putG L k))) else Nx1 H6)
    else Nx H3)
theorem sc2_core {pins : List (Addr × Obj)} {s : Shared} {σ : L2.St} {H : Hp} {Q : VK} {elt tg iter tg1 iter1 : Expr} {ifs ifs1 : List Expr} {scope : Scope} {own : List (Str × Nat)} {vs1 : List Nat} {pos pos' : Pos} {wi wi1 : TI} {g g1 : TG} {tt tt1 : TT} {te : TE} {use : Option (Value → Sem Unit)} {Qf : Value → Shared → Prop}
    (hc : X.calm = true) (hN : X.N.Nodup) (I : Inv X pins σ H s) (hi : PI X tg iter wi) (ok : BlkOk X.N X.env.scope scope own) (hv : ∀ i ∈ vs1, i ∈ own.map (·.2))
    (hg : ∀ (s : Shared) (H : Hp) (C : Addr) (cl : List (Str × Addr)) (fp : List Addr), PG (X.blk s H scope (compEnvC scope cl C X.env) fp) tg g) (ht : ∀ (s : Shared) (H : Hp) (C : Addr) (cl : List (Str × Addr)) (fp : List Addr), PTs (X.blk s H scope (compEnvC scope cl C X.env) fp) ifs tt)
    (he : ∀ (s : Shared) (H : Hp) (C : Addr) (cl : List (Str × Addr)) (fp : List Addr), PE (X.blk s H scope (compEnvC scope cl C X.env) fp) elt te) (hs : ∀ x, foldedSetIterable iter X.env x = pure x)
    (hi1 : ∀ (s : Shared) (H : Hp) (C : Addr) (cl : List (Str × Addr)) (fp : List Addr), PI (X.blk s H scope (compEnvC scope cl C X.env) fp) tg1 iter1 wi1)
    (hg1 : ∀ (s : Shared) (H : Hp) (C : Addr) (cl : List (Str × Addr)) (fp : List Addr), PG (X.blk s H scope (compEnvC scope cl C X.env) fp) tg1 g1)
    (ht1 : ∀ (s : Shared) (H : Hp) (C : Addr) (cl : List (Str × Addr)) (fp : List Addr), PTs (X.blk s H scope (compEnvC scope cl C X.env) fp) ifs1 tt1)
    (hs1 : ∀ env x, foldedSetIterable iter1 env x = pure x)
    (h : tSc2 X.prog X.w wi g tt wi1 g1 tt1 te (own.map (·.2)) vs1 σ H Q)
    (hRR : ∀ D C s' m H', Inv X pins σ H' s' → Q (.ref D) H' → s'.heap.Ns C m → FpOk X pins H' C → compPost (model X.prog X.w) X.A X.xe use Qf (.ref D) C (.ok .next) s') :
    wpAny (model X.prog X.w) X.A (comprehension (.SetComp elt [⟨tg, iter, ifs, 0⟩, ⟨tg1, iter1, ifs1, 0⟩] scope pos) scope X.env pos' (newSet (.type "set")) false (eval iter X.env) use) Qf X.xe s := by
  have hfree : ∀ y ∈ scope.names, y.2 = .free → ∃ c, X.env.cells.lookup y.1 = some c := fun y hy e => by
    rcases ok.free y hy e with k | k
    · exact I.ok.has _ (.inl k)
    · exact I.ok.has _ (.inr k)
  refine wpAny_comprehension_free (use := use) rfl hs (closure_ok hfree) ok.kind (fun y hy e => by rw [ok.uniq y hy, e])
    (thn (hi.run pins s σ H _ I h) fun xv s1 hx => thn hx fun itv s2 h2 => ?_)
  obtain ⟨it, fp, tn, J, H2, e, I2, T, st2, f2, q⟩ := h2
  subst e
  refine PpSet.newSet_ok (newEnv_comp ?_)
  generalize hD : s2.heap.objs.size = D
  have hDn : H2 D = none := I2.hok.fresh (Nat.le_of_eq hD)
  obtain ⟨W, ⟨m0, w0⟩, turn⟩ := q D hDn
  -- the new list
  generalize hs3 : ({ s2 with heap := s2.heap.push { cls := .type "set", dict := none, data := .set #[] 0 (.fresh 0 0 (!X.w.params.followText "set-order")) } } : Shared) = s3
  have I3 : Inv X pins σ (upd H2 D (SetGO X.prog X.w D [])) s3 := by
    rw [← hs3]
    refine I2.laid (t' := s2.toks) (fun b o e => Heap.get?_push_of_some _ e) (Nat.le_of_eq hD) ?_
    rw [← hD]
    exact setGO_new (setG_fresh (Heap.get?_push_size _ rfl))
  have h3 : s3.heap = s2.heap.push { cls := .type "set", dict := none, data := .set #[] 0 (.fresh 0 0 (!X.w.params.followText "set-order")) } := by rw [← hs3]
  have sz : ∀ b ∈ fp, b < s2.heap.objs.size := fun b hb => by
    obtain ⟨o, e, _⟩ := T.obj _ _ st2 b hb
    exact Heap.lt_size e
  have f3 : ∀ b ∈ fp, FpOk X pins (upd H2 D (SetGO X.prog X.w D [])) b ∧ b < s3.heap.objs.size := fun b hb => by
    have hlt := sz b hb
    refine ⟨⟨?_, (f2 b hb).2⟩, by rw [h3, Heap.size_push]; exact Nat.lt_succ_of_lt hlt⟩
    rw [upd_ne (by rw [← hD]; exact Nat.ne_of_lt hlt)]
    exact (f2 b hb).1
  have st3 : tn 0 s3.heap := T.keep _ _ _ st2 fun b _ o e => by rw [h3]; exact Heap.get?_push_of_some _ e
  have I4 := block_start I3 ok hN f3
  have pg := hg s3 (upd H2 D (SetGO X.prog X.w D [])) s3.heap.objs.size (cellsFrom (s3.heap.objs.size + 1) scope.names (cloFrom X.env.cells scope.names [])) fp
  have pt := ht s3 (upd H2 D (SetGO X.prog X.w D [])) s3.heap.objs.size (cellsFrom (s3.heap.objs.size + 1) scope.names (cloFrom X.env.cells scope.names [])) fp
  have pe := he s3 (upd H2 D (SetGO X.prog X.w D [])) s3.heap.objs.size (cellsFrom (s3.heap.objs.size + 1) scope.names (cloFrom X.env.cells scope.names [])) fp
  have pi1 := hi1 s3 (upd H2 D (SetGO X.prog X.w D [])) s3.heap.objs.size (cellsFrom (s3.heap.objs.size + 1) scope.names (cloFrom X.env.cells scope.names [])) fp
  have pg1 := hg1 s3 (upd H2 D (SetGO X.prog X.w D [])) s3.heap.objs.size (cellsFrom (s3.heap.objs.size + 1) scope.names (cloFrom X.env.cells scope.names [])) fp
  have pt1 := ht1 s3 (upd H2 D (SetGO X.prog X.w D [])) s3.heap.objs.size (cellsFrom (s3.heap.objs.size + 1) scope.names (cloFrom X.env.cells scope.names [])) fp
  show codeAny _ _ (.compStart (.SetComp elt [⟨tg, iter, ifs, 0⟩, ⟨tg1, iter1, ifs1, 0⟩] scope pos) 0 (.ref it) (.ref D) (compEnvC scope (cellsFrom (s3.heap.objs.size + 1) scope.names (cloFrom X.env.cells scope.names [])) s3.heap.objs.size X.env)) (compPost (model X.prog X.w) X.A X.xe use Qf (.ref D) s3.heap.objs.size) { s3 with heap := pushCells (s3.heap.push { cls := .type "dict", data := .dict #[] }) scope.names }
  have nfp : ∀ b ∈ fp, (upd H2 D (SetGO X.prog X.w D [])) b = none := fun b hb => (f3 b hb).1.1
  generalize hce : compEnvC scope (cellsFrom (s3.heap.objs.size + 1) scope.names (cloFrom X.env.cells scope.names [])) s3.heap.objs.size X.env = ce at I4 pg pt pe pi1 pg1 pt1 ⊢
  have cL : ce.locals = s3.heap.objs.size := by subst hce; rfl
  generalize hH3 : upd H2 D (SetGO X.prog X.w D []) = H3 at I3 I4 pg pt pe pi1 pg1 pt1 w0 nfp f3
  generalize hs4 : ({ s3 with heap := pushCells (s3.heap.push { cls := .type "dict", data := .dict #[] }) scope.names } : Shared) = s4 at I4 ⊢
  have st4 : tn 0 s4.heap := T.keep _ _ _ st3 fun b _ o e => by rw [← hs4]; exact pushCells_keeps _ _ _ _ (Heap.get?_push_of_some _ e)
  have stat : ∀ {σ' : L2.St} {H' : Hp} {s' : Shared}, Inv (X.blk s3 H3 scope ce fp) [] σ' H' s' → (∀ b ∈ fp, H' b = none) → ∀ b ∈ fp, FpOk (X.blk s3 H3 scope ce fp) [] H' b := fun {σ' H' s'} I' hn b hb =>
    ⟨hn b hb, (I'.ok.exf b hb).1, I'.ok.exfs b hb, .inl hb, fun x c e => (I'.ok.exf b hb).2 x c e, fun p hp => absurd (show p ∈ ([] : List (Addr × Obj)) ++ [] from hp) (by simp)⟩
  have loop : codeAny (model X.prog X.w) X.A (.compLoop (.SetComp elt [⟨tg, iter, ifs, 0⟩, ⟨tg1, iter1, ifs1, 0⟩] scope pos) 0 (.ref it) (.ref D) ce) (compPost (model X.prog X.w) X.A X.xe use Qf (.ref D) s3.heap.objs.size) s4 := by
    refine compLoopS2_out (hs1 ce) (fun n s' => ∃ i H', Inv (X.blk s3 H3 scope ce fp) [] (wipe σ (own.map (·.2))) H' s' ∧ tn i s'.heap ∧ (∀ b ∈ fp, H' b = none) ∧ W i n H') ?_ m0 ⟨0, H3, I4, st4, nfp, w0⟩
    rintro n s5 ⟨i, H5, I5, st5, n5, w5⟩
    rcases turn i n H5 w5 with ⟨stop, qq⟩ | ⟨go, Nx, hNx, step⟩
    · have td := T.done (X.blk s3 H3 scope ce fp) rfl rfl rfl hc i [] s5 _ H5 (fun _ _ => False) I5 (stat I5 n5) st5 stop
      refine thnF td fun r s6 ⟨hr, I6⟩ => ?_
      subst hr
      -- back in the def's context
      have I7 : Inv X pins σ H5 s6 := I3.call' (ch := fp) I6.os I6.base I6.hok I6.bare fun b hb => ⟨(f3 b hb).1.2.2.2.1, (f3 b hb).1.2.1, (f3 b hb).1.2.2.2.2.1, (f3 b hb).1.2.2.2.2.2⟩
      have nC : H5 s3.heap.objs.size = none := by
        have z : H5 ce.locals = none := I6.free
        rw [cL] at z
        exact z
      obtain ⟨m, hn, _⟩ := I6.loc
      have hn : s6.heap.Ns ce.locals m := hn
      rw [cL] at hn
      exact hRR D s3.heap.objs.size s6 m H5 I7 qq hn (I3.fpOk (Nat.le_refl _) nC)
    · have ti := T.item (X.blk s3 H3 scope ce fp) rfl rfl rfl hc i [] s5 _ H5 (fun _ _ => False) I5 (stat I5 n5) st5 go
      refine thnF ti fun r s6 ⟨u, hr, h6⟩ => ?_
      subst hr
      refine thnF h6 fun _ s7 ⟨x, H7, I7, r7, y7, st7, n7⟩ => ?_
      have I7' := I7.pinned (stat I7 n7) (T.obj _ _ st7)
      refine thnF (pg.run _ s7 _ H7 x u _ I7' r7 (step x H7 y7)) fun _ s8 ⟨σ8, H8, I8, hw8, q8⟩ => ?_
      refine thnF (pt.run _ s8 σ8 H8 _ I8 q8) fun b s9 ⟨H9, I9, q9⟩ => ?_
      -- the turn's end, from any slots that know what the block knew at its start
      have fin : ∀ {σ9 : L2.St} {s' : Shared} {H' : Hp}, Inv (X.blk s3 H3 scope ce fp) ([] ++ pinsAt fp s7.heap) σ9 H' s' → (wipe σ (own.map (·.2))).length = σ9.length → (∀ (j : Nat) v, (wipe σ (own.map (·.2)))[j]? = some (some v) → σ9[j]? = some (some v)) → Nx H' →
          ∃ m, m < n ∧ ∃ i H', Inv (X.blk s3 H3 scope ce fp) [] (wipe σ (own.map (·.2))) H' s' ∧ tn i s'.heap ∧ (∀ b ∈ fp, H' b = none) ∧ W i m H' := fun {σ9 s' H'} I' hl hk nx => by
        obtain ⟨m', hm, w'⟩ := hNx H' nx
        have pin' : ∀ b ∈ fp, ∀ o, s7.heap.get? b = some o → s'.heap.get? b = some o ∧ H' b = none := fun b hb o e =>
          let z := I'.pin (b, o) (List.mem_append_right _ (List.mem_append_right _ (mem_pinsAt hb e)))
          ⟨z.1, z.2.1⟩
        refine ⟨m', hm, i + 1, H', (I'.unpinned (pins := [])).weak hl hk, T.keep _ _ _ st7 fun b hb o e => (pin' b hb o e).1, fun b hb => ?_, w'⟩
        obtain ⟨o, e, _⟩ := T.obj _ _ st7 b hb
        exact (pin' b hb o e).2
      have hl8 : (wipe σ (own.map (·.2))).length = σ8.length := by rw [← hw8, wipe_length]
      have hk8 : ∀ (j : Nat) v, (wipe σ (own.map (·.2)))[j]? = some (some v) → σ8[j]? = some (some v) := fun j v e => by
        rw [← hw8] at e
        exact (wipe_some e).1
      have hk9 : ∀ (j : Nat) v, (wipe σ (own.map (·.2)))[j]? = some (some v) → (wipe σ8 vs1)[j]? = some (some v) := fun j v e => by
        rw [← hw8] at e
        obtain ⟨e1, e2⟩ := wipe_some e
        rw [wipe_out fun z => e2 (hv j z)]
        exact e1
      cases b with
      | false =>
        simp only [Bool.false_eq_true, if_false] at q9 ⊢
        exact fin I9 hl8 hk8 q9
      | true =>
        simp only [if_true] at q9 ⊢
        refine thnF (pi1.run _ s9 σ8 H9 _ I9 q9) fun xv s10 hx => thnF hx fun itv s11 h11 => ?_
        obtain ⟨it1, fp1, tn1, J1, H11, e1, I11, T1, st11, f11, W1, ⟨m1, w1⟩, turn1⟩ := h11
        subst e1
        -- the inner loop
        have stat1 : ∀ {H' : Hp}, (∀ b ∈ fp1, H' b = none) → ∀ b ∈ fp1, FpOk (X.blk s3 H3 scope ce fp) ([] ++ pinsAt fp s7.heap) H' b := fun hn b hb => ⟨hn b hb, (f11 b hb).2⟩
        have loop1 : codeAny (model X.prog X.w) X.A (.compLoop (.SetComp elt [⟨tg, iter, ifs, 0⟩, ⟨tg1, iter1, ifs1, 0⟩] scope pos) 1 (.ref it1) (.ref D) ce)
            (fun r s' => match r with
              | .ok _ => ∃ m, m < n ∧ ∃ i H', Inv (X.blk s3 H3 scope ce fp) [] (wipe σ (own.map (·.2))) H' s' ∧ tn i s'.heap ∧ (∀ b ∈ fp, H' b = none) ∧ W i m H'
              | .error _ => False) s11 := by
          refine compLoopS2_in (fun k s' => ∃ j H', Inv (X.blk s3 H3 scope ce fp) ([] ++ pinsAt fp s7.heap) (wipe σ8 vs1) H' s' ∧ tn1 j s'.heap ∧ (∀ b ∈ fp1, H' b = none) ∧ W1 j k H') ?_ m1 ⟨0, H11, I11.weak (wipe_length _ _) (fun j v e => (wipe_some e).1), st11, fun b hb => (f11 b hb).1, w1⟩
          rintro k s12 ⟨j, H12, I12, st12, n12, w12⟩
          rcases turn1 j k H12 w12 with ⟨stop1, nx1⟩ | ⟨go1, Nx1, hNx1, step1⟩
          · refine thnF (T1.done (X.blk s3 H3 scope ce fp) rfl rfl rfl hc j _ s12 (wipe σ8 vs1) H12 (fun _ _ => False) I12 (stat1 n12) st12 stop1) fun r s13 ⟨hr, I13⟩ => ?_
            subst hr
            exact fin I13 (hl8.trans (wipe_length σ8 vs1).symm) hk9 nx1
          · refine thnF (T1.item (X.blk s3 H3 scope ce fp) rfl rfl rfl hc j _ s12 (wipe σ8 vs1) H12 (fun _ _ => False) I12 (stat1 n12) st12 go1) fun r s13 ⟨u1, hr, h13⟩ => ?_
            subst hr
            refine thnF h13 fun _ s14 ⟨x1, H14, I14, r14, y14, st14, n14⟩ => ?_
            have I14' := I14.pinned (stat1 n14) (T1.obj _ _ st14)
            refine thnF (pg1.run _ s14 (wipe σ8 vs1) H14 x1 u1 _ I14' r14 (step1 x1 H14 y14)) fun _ s15 ⟨σ15, H15, I15, hw15, q15⟩ => ?_
            refine thnF (pt1.run _ s15 σ15 H15 _ I15 q15) fun b1 s16 ⟨H16, I16, q16⟩ => ?_
            have fin1 : ∀ {s' : Shared} {H' : Hp}, Inv (X.blk s3 H3 scope ce fp) (([] ++ pinsAt fp s7.heap) ++ pinsAt fp1 s14.heap) σ15 H' s' → Nx1 H' → ∃ m, m < k ∧ ∃ j H', Inv (X.blk s3 H3 scope ce fp) ([] ++ pinsAt fp s7.heap) (wipe σ8 vs1) H' s' ∧ tn1 j s'.heap ∧ (∀ b ∈ fp1, H' b = none) ∧ W1 j m H' := fun {s' H'} I' nx => by
              obtain ⟨m', hm, w'⟩ := hNx1 H' nx
              have pin' : ∀ b ∈ fp1, ∀ o, s14.heap.get? b = some o → s'.heap.get? b = some o ∧ H' b = none := fun b hb o e =>
                let z := I'.pin (b, o) (List.mem_append_right _ (List.mem_append_right _ (mem_pinsAt hb e)))
                ⟨z.1, z.2.1⟩
              refine ⟨m', hm, j + 1, H', I'.unpinned.weak (by rw [← hw15, wipe_length]) (fun j v e => by rw [← hw15] at e; exact (wipe_some e).1), T1.keep _ _ _ st14 fun b hb o e => (pin' b hb o e).1, fun b hb => ?_, w'⟩
              obtain ⟨o, e, _⟩ := T1.obj _ _ st14 b hb
              exact (pin' b hb o e).2
            cases b1 with
            | false =>
              simp only [Bool.false_eq_true, if_false] at q16 ⊢
              exact fin1 I16 q16
            | true =>
              simp only [if_true] at q16 ⊢
              refine thnF (pe.run _ s16 σ15 H16 _ I16 q16) fun z s17 ⟨yv, H17, I17, r17, key, L, ey, hD17, hz17, nx⟩ => ?_
              subst ey
              exact addG_ok (X := X.blk s3 H3 scope ce fp) I17 hD17 hz17 r17 fun s18 I18 => fin1 I18 nx
        exact compStartS1_ok loop1 (T1.self X.A 0 _ _ _ st11 loop1)
  exact PpSet.codeAny_compStart_set loop (T.self X.A 0 _ _ _ st4 loop)
/-- as a value -/
theorem pe_sc2 {elt tg iter tg1 iter1 : Expr} {ifs ifs1 : List Expr} {scope : Scope} {own : List (Str × Nat)} {vs1 : List Nat} {pos : Pos} {wi wi1 : TI} {g g1 : TG} {tt tt1 : TT} {te : TE} (hc : X.calm = true) (hN : X.N.Nodup) (hi : PI X tg iter wi) (ok : BlkOk X.N X.env.scope scope own) (hv : ∀ i ∈ vs1, i ∈ own.map (·.2))
    (hg : ∀ (s : Shared) (H : Hp) (C : Addr) (cl : List (Str × Addr)) (fp : List Addr), PG (X.blk s H scope (compEnvC scope cl C X.env) fp) tg g) (ht : ∀ (s : Shared) (H : Hp) (C : Addr) (cl : List (Str × Addr)) (fp : List Addr), PTs (X.blk s H scope (compEnvC scope cl C X.env) fp) ifs tt)
    (hi1 : ∀ (s : Shared) (H : Hp) (C : Addr) (cl : List (Str × Addr)) (fp : List Addr), PI (X.blk s H scope (compEnvC scope cl C X.env) fp) tg1 iter1 wi1)
    (hg1 : ∀ (s : Shared) (H : Hp) (C : Addr) (cl : List (Str × Addr)) (fp : List Addr), PG (X.blk s H scope (compEnvC scope cl C X.env) fp) tg1 g1) (ht1 : ∀ (s : Shared) (H : Hp) (C : Addr) (cl : List (Str × Addr)) (fp : List Addr), PTs (X.blk s H scope (compEnvC scope cl C X.env) fp) ifs1 tt1)
    (he : ∀ (s : Shared) (H : Hp) (C : Addr) (cl : List (Str × Addr)) (fp : List Addr), PE (X.blk s H scope (compEnvC scope cl C X.env) fp) elt te) (hs : ∀ x, foldedSetIterable iter X.env x = pure x := by intro _; rfl) (hs1 : ∀ env x, foldedSetIterable iter1 env x = pure x := by intro _ _; rfl) :
    PE X (.SetComp elt [⟨tg, iter, ifs, 0⟩, ⟨tg1, iter1, ifs1, 0⟩] scope pos) (tSc2 X.prog X.w wi g tt wi1 g1 tt1 te (own.map (·.2)) vs1) := by
  refine ⟨fun pins s σ H Q I h => ?_⟩
  rw [PpSet.eval_SetComp]
  refine sc2_core hc hN I hi ok hv hg ht he hs hi1 hg1 ht1 hs1 h fun D C s' m H' I' q hn f => ⟨m, hn, fun h'' sb => ?_⟩
  obtain ⟨f0, f1, f2, f3, f4, f5⟩ := f
  exact ⟨.ref D, H', I'.turned (t' := s'.toks) (fun b o hb e => (sb.2 b hb).trans e) f0 f1 f3 f4 f5, rfl, q⟩
end
/-! ### over data -/
section
variable {X : Cx} {W0 W W1 : Wd} {S S1 : Sh} {σ : L2.St} {H H1 : Hp} {dl : DA} {a b e : Expr} {pos : Pos} {da : DE} {it it1 : DN} {dt dt1 : DT} {tg tg1 : Tg}
theorem loopC_pre {tg : Tg} {tt : DT} {el : DE} {ρ : Env'} : ∀ {xs acc : List D} {S S' : Sh} {r : List D}, loopC tg tt el ρ xs acc S = some (r, S') → ∃ t, r = acc ++ t
  | [], acc, S, S', r, h => by
    rw [loopC] at h
    cases h
    exact ⟨[], by simp⟩
  | d :: xs, acc, S, S', r, h => by
    rw [loopC] at h
    obtain ⟨u, h1, h⟩ := bindS h
    obtain ⟨⟨b, S1⟩, h2, h⟩ := bindS h
    cases b with
    | false =>
      simp only [Bool.false_eq_true, if_false] at h
      exact loopC_pre h
    | true =>
      simp only [if_true] at h
      obtain ⟨⟨y, S2⟩, h3, h⟩ := bindS h
      simp only [Option.ite_none_right_eq_some] at h
      obtain ⟨t, e⟩ := loopC_pre h.2
      exact ⟨y :: t, by rw [e]; simp⟩
theorem loopC2_pre {tg tg1 : Tg} {tt tt1 : DT} {el : DE} {it1 : DN} {vs1 : List Nat} {ρ : Env'} : ∀ {xs acc : List D} {S S' : Sh} {r : List D}, loopC2 tg tt it1 tg1 vs1 tt1 el ρ xs acc S = some (r, S') → ∃ t, r = acc ++ t
  | [], acc, S, S', r, h => by
    rw [loopC2] at h
    cases h
    exact ⟨[], by simp⟩
  | d :: xs, acc, S, S', r, h => by
    rw [loopC2] at h
    obtain ⟨u, h1, h⟩ := bindS h
    obtain ⟨⟨b, S1⟩, h2, h⟩ := bindS h
    cases b with
    | false =>
      simp only [Bool.false_eq_true, if_false] at h
      exact loopC2_pre h
    | true =>
      simp only [if_true] at h
      obtain ⟨⟨y, S2⟩, h3, h⟩ := bindS h
      obtain ⟨⟨z, S3⟩, h4, h⟩ := bindS h
      obtain ⟨t, e⟩ := loopC_pre h4
      obtain ⟨t2, e2⟩ := loopC2_pre h
      exact ⟨t ++ t2, by rw [e2, e]; simp⟩
theorem pre_key {kk : List Key} {acc t : List D} {y : D} (h : kk.map keD = (acc ++ [y]) ++ t) : ∃ k, y = keD k ∧ acc.length < kk.length ∧ kk.take (acc.length + 1) = kk.take acc.length ++ [k] := by
  have hl : acc.length < kk.length := by
    have := congrArg List.length h
    rw [List.length_map, List.length_append, List.length_append, List.length_singleton] at this
    omega
  refine ⟨kk[acc.length], ?_, hl, ?_⟩
  · have e := congrArg (fun l => l[acc.length]?) h
    simp only [List.getElem?_map, List.getElem?_eq_getElem hl, Option.map_some] at e
    rw [List.append_assoc, List.getElem?_append_right (Nat.le_refl _), Nat.sub_self] at e
    simpa using e.symm
  · rw [List.take_succ, List.getElem?_eq_getElem hl]
    rfl
theorem sc2_of {P : Program} {w0 : World} {K : Fr} {ks vs1 : List Nat} (hv : (tgSlots tg).all (fun i => ks.contains i) = true) (hv1 : (tgSlots tg1).all (fun i => vs1.contains i) = true) {σ : L2.St} {H : Hp} {Q : VK} {W : Wd} {ρ : Env'} {S S' : Sh} {fin : List D} {kk : List Key} (R : Rel K W ρ S σ H) (hd : nComp2 it tg ks dt it1 tg1 vs1 dt1 da ρ S = some (fin, S')) (ek : fin = kk.map keD) (hk : kk.length + 1 < 4096)
    (k : ∀ W' D H', Stp W W' H H' → Rel K W' ρ S' σ H' → H' D = some (SetGO P w0 D (metG [] kk)) → W'.T D = none → D ∉ W'.m → H D = none → Q (.ref D) H') :
    tSc2 P w0 (liftI K it) (tgOf K tg) (liftT K dt) (liftI K it1) (tgOf K tg1) (liftT K dt1) (liftE K da) ks vs1 σ H Q := by
  obtain ⟨⟨ds, S1⟩, e1, hd⟩ := bindS hd
  refine ⟨W, ρ, S, ds, S1, R, e1, fun W1 H1 J s1 R1 w D hD => ?_⟩
  have hD0 : H D = none := by
    cases q : H D with
    | none => rfl
    | some o =>
      obtain ⟨o', z⟩ := s1.ex D o q
      rw [hD] at z; cases z
  obtain ⟨BD, sD⟩ := R1.base.alloc (SetGO P w0 D []) hD
  obtain ⟨f1, f2⟩ := R1.base.free hD
  -- the list made so far stands through a step
  have stay : ∀ {o : HO} {Wa Wb : Wd} {Ha Hb : Hp}, Ha D = some o → Wa.T D = none → D ∉ Wa.m → Stp Wa Wb Ha Hb → Hb D = some o ∧ Wb.T D = none ∧ D ∉ Wb.m := fun {o Wa Wb Ha Hb} q1 q2 q3 q4 => by
    refine ⟨q4.keep D _ q1 q3, ?_, fun z => ?_⟩
    · cases q : Wb.T D with
      | none => rfl
      | some o =>
        rcases q4.newT D o q with z | z
        · rw [q2] at z; cases z
        · rw [q1] at z; cases z
    · rcases q4.new D z with z | z
      · exact q3 z
      · rw [q1] at z; cases z
  have slots : ∀ {g : Tg} {vs : List Nat} {d : DL.D} {u : List (Nat × DL.D)} {wv : List (Nat × V)} {W : Wd}, (tgSlots g).all (fun i => vs.contains i) = true → bindT g d = some u → RepU W u wv → ∀ p, p ∈ wv → p.1 ∈ vs := fun {g vs d u wv W} hv h1 hw p hp => by
    have : p.1 ∈ tgSlots g := by
      rw [← bindT_slots g _ u h1, ← hw.slots]
      exact List.mem_map_of_mem hp
    have := List.all_eq_true.mp hv _ this
    simpa using this
  refine ⟨fun i m H' => m = ds.length - i ∧ i ≤ ds.length ∧ ∃ W' S2 accD, Stp W W' H H' ∧ Le W1 W' ∧ Base K W' S2 H' ∧ H' D = some (SetGO P w0 D (metG [] (kk.take accD.length))) ∧ W'.T D = none ∧ D ∉ W'.m ∧ loopC2 tg dt it1 tg1 vs1 dt1 da (wipeD ρ ks) (ds.drop i) accD S2 = some (fin, S'),
    ⟨ds.length, by simp, Nat.zero_le _, W1, S1, [], s1.trans sD, .refl _, BD, upd_same, f1, f2, by simpa using hd⟩, ?_⟩
  rintro i m H' ⟨rfl, hi', W', S2, accD, s', l', B', hacc, t', m', hd'⟩
  obtain ⟨w1, w2⟩ := w i W' S2 H' l' B'
  by_cases hlt : i < ds.length
  · obtain ⟨g, y⟩ := w1 _ (List.getElem?_eq_getElem hlt)
    rw [List.drop_eq_getElem_cons hlt, loopC2] at hd'
    obtain ⟨u, h1, hd'⟩ := bindS hd'
    obtain ⟨⟨tb, S3⟩, h2, hd'⟩ := bindS hd'
    refine .inr ⟨g, fun H4 => ∃ W4 S4 accD4, Stp W W4 H H4 ∧ Le W1 W4 ∧ Base K W4 S4 H4 ∧ H4 D = some (SetGO P w0 D (metG [] (kk.take accD4.length))) ∧ W4.T D = none ∧ D ∉ W4.m ∧ loopC2 tg dt it1 tg1 vs1 dt1 da (wipeD ρ ks) (ds.drop (i + 1)) accD4 S4 = some (fin, S'), fun H4 q => ⟨ds.length - (i + 1), by omega, rfl, hlt, q⟩, fun x H3 hy => ?_⟩
    obtain ⟨W3, s3, B3, r3⟩ := y x H3 hy
    obtain ⟨a3, t3, m3⟩ := stay hacc t' m' s3
    refine tg_run B3 tg _ x _ u _ h1 r3 fun wv hw => ?_
    refine ⟨(wipe_put (slots hv h1 hw)).trans (wipe_wipe _ σ), ?_⟩
    have E3 : EnvR W3 (putD (wipeD ρ ks) u) (putV (wipe σ ks) wv) := EnvR.puts hw ((R1.env.mono (l'.trans s3.le)).wipes _)
    refine ⟨W3, _, S2, tb, S3, ⟨B3, E3⟩, h2, fun W4 H4 s4 R4 => ?_⟩
    obtain ⟨a4, t4, m4⟩ := stay a3 t3 m3 s4
    have st4 := (s'.trans s3).trans s4
    have l4 := (l'.trans s3.le).trans s4.le
    cases tb with
    | false =>
      rw [if_neg Bool.false_ne_true]
      simp only [Bool.false_eq_true, if_false] at hd'
      exact ⟨W4, S3, accD, st4, l4, R4.base, a4, t4, m4, hd'⟩
    | true =>
      rw [if_pos rfl]
      simp only [if_true] at hd'
      obtain ⟨⟨ds1, S5⟩, h5, hd'⟩ := bindS hd'
      obtain ⟨⟨fin1, S6⟩, h6, hd'⟩ := bindS hd'
      refine ⟨W4, _, S3, ds1, S5, R4, h5, fun W5 H5 J1 s5 R5 w5 => ?_⟩
      obtain ⟨a5, t5, m5⟩ := stay a4 t4 m4 s5
      refine ⟨fun j m H' => m = ds1.length - j ∧ j ≤ ds1.length ∧ ∃ W' S2 accD, Stp W W' H H' ∧ Le W5 W' ∧ Base K W' S2 H' ∧ H' D = some (SetGO P w0 D (metG [] (kk.take accD.length))) ∧ W'.T D = none ∧ D ∉ W'.m ∧ loopC tg1 dt1 da (wipeD (putD (wipeD ρ ks) u) vs1) (ds1.drop j) accD S2 = some (fin1, S6),
        ⟨ds1.length, by simp, Nat.zero_le _, W5, S5, accD, st4.trans s5, .refl _, R5.base, a5, t5, m5, by simpa using h6⟩, ?_⟩
      rintro j m H6 ⟨rfl, hj, W6, S7, accD6, st6, l6, B6, a6, t6, m6, hd6⟩
      obtain ⟨y1, y2⟩ := w5 j W6 S7 H6 l6 B6
      by_cases hlt1 : j < ds1.length
      · obtain ⟨g1, yy⟩ := y1 _ (List.getElem?_eq_getElem hlt1)
        rw [List.drop_eq_getElem_cons hlt1, loopC] at hd6
        obtain ⟨u1, k1, hd6⟩ := bindS hd6
        obtain ⟨⟨tb1, S8⟩, k2, hd6⟩ := bindS hd6
        refine .inr ⟨g1, fun H' => ∃ W' S2 accD, Stp W W' H H' ∧ Le W5 W' ∧ Base K W' S2 H' ∧ H' D = some (SetGO P w0 D (metG [] (kk.take accD.length))) ∧ W'.T D = none ∧ D ∉ W'.m ∧ loopC tg1 dt1 da (wipeD (putD (wipeD ρ ks) u) vs1) (ds1.drop (j + 1)) accD S2 = some (fin1, S6), fun H' q => ⟨ds1.length - (j + 1), by omega, rfl, hlt1, q⟩, fun x1 H7 hy1 => ?_⟩
        obtain ⟨W7, s7, B7, r7⟩ := yy x1 H7 hy1
        obtain ⟨a7, t7, m7⟩ := stay a6 t6 m6 s7
        refine tg_run B7 tg1 _ x1 _ u1 _ k1 r7 fun wv1 hw1 => ?_
        refine ⟨(wipe_put (slots hv1 k1 hw1)).trans (wipe_wipe _ _), ?_⟩
        have E7 : EnvR W7 (putD (wipeD (putD (wipeD ρ ks) u) vs1) u1) (putV (wipe (putV (wipe σ ks) wv) vs1) wv1) := EnvR.puts hw1 ((R5.env.mono (l6.trans s7.le)).wipes _)
        refine ⟨W7, _, S7, tb1, S8, ⟨B7, E7⟩, k2, fun W8 H8 s8 R8 => ?_⟩
        obtain ⟨a8, t8, m8⟩ := stay a7 t7 m7 s8
        have st8 := (st6.trans s7).trans s8
        have l8 := (l6.trans s7.le).trans s8.le
        cases tb1 with
        | false =>
          rw [if_neg Bool.false_ne_true]
          simp only [Bool.false_eq_true, if_false] at hd6
          exact ⟨W8, S8, accD6, st8, l8, R8.base, a8, t8, m8, hd6⟩
        | true =>
          rw [if_pos rfl]
          simp only [if_true] at hd6
          obtain ⟨⟨y9, S9⟩, k3, hd6⟩ := bindS hd6
          simp only [Option.ite_none_right_eq_some] at hd6
          obtain ⟨hsz, hd6⟩ := hd6
          refine ⟨W8, _, S8, y9, S9, R8, k3, fun W9 v9 H9 s9 R9 r9 => ?_⟩
          obtain ⟨a9, t9, m9⟩ := stay a8 t8 m8 s9
          obtain ⟨tl1, p1⟩ := loopC_pre hd6
          obtain ⟨tl2, p2⟩ := loopC2_pre hd'
          obtain ⟨key, q1, q2, q3⟩ := pre_key (kk := kk) (acc := accD6) (y := y9) (t := tl1 ++ tl2) (by rw [← ek, p2, p1]; simp)
          subst q1
          have ml := metG_len (kk.take accD6.length) []
          rw [List.length_take] at ml
          have st9 := st8.trans s9
          refine ⟨key, _, rep_keD.mp r9, a9, by show _ < 4096; simp only [List.length_nil] at ml; omega, W9, S9, accD6 ++ [keD key], ⟨st9.le, fun b o h n => ?_, st9.new, fun b o h => ?_, st9.newT⟩, l8.trans s9.le, R9.base.put t9 m9 (fun x ys z => by rw [a9] at z; cases z), by rw [upd_same, List.length_append, List.length_singleton, q3, metG_append], t9, m9, hd6⟩
          · have ne : b ≠ D := fun e => by rw [e, hD0] at h; cases h
            rw [upd_ne ne]
            exact st9.keep b o h n
          · have ne : b ≠ D := fun e => by rw [e, hD0] at h; cases h
            rw [upd_ne ne]
            exact st9.ex b o h
      · have e : j = ds1.length := by omega
        subst e
        rw [List.drop_length, loopC] at hd6
        cases hd6
        exact .inl ⟨y2 (by simp), W6, S6, fin1, st6, (l4.trans s5.le).trans l6, B6, a6, t6, m6, hd'⟩
  · have e : i = ds.length := by omega
    subst e
    rw [List.drop_length, loopC2] at hd'
    cases hd'
    refine .inl ⟨w2 (by simp), k W' D H' s' ⟨B', R1.env.mono l'⟩ ?_ t' m' hD0⟩
    rw [hacc, ek, List.length_map, List.take_length]
def nSortSC2 (it : DN) (tg : Tg) (vs : List Nat) (tt : DT) (it1 : DN) (tg1 : Tg) (vs1 : List Nat) (tt1 : DT) (el : DE) : DN := fun ρ S => (nComp2 it tg vs tt it1 tg1 vs1 tt1 el ρ S).bind fun p => (setO (.lst p.1)).map fun L => (sortD (L.map keD), p.2)
theorem dn_sortSC2 {p pos2 : Pos} {elt tge iter tge1 iter1 : Expr} {ifs ifs1 : List Expr} {scope : Scope} {own : List (Str × Nat)} {vs1 : List Nat} (hc : X.calm = true) (hu : X.A.units + 64 < cLine) (hm : X.mg "sorted" = none) (hN : X.N.Nodup) (hi : PI' X tge iter it) (ok : BlkOk X.N X.env.scope scope own)
    (hg : ∀ (s : Shared) (H : Hp) (C : Addr) (cl : List (Str × Addr)) (fp : List Addr), PG (X.blk s H scope (compEnvC scope cl C X.env) fp) tge (tgOf X.KW tg)) (ht : ∀ (s : Shared) (H : Hp) (C : Addr) (cl : List (Str × Addr)) (fp : List Addr), PTs (X.blk s H scope (compEnvC scope cl C X.env) fp) ifs (liftT X.KW dt))
    (hi1 : ∀ (s : Shared) (H : Hp) (C : Addr) (cl : List (Str × Addr)) (fp : List Addr), PI' (X.blk s H scope (compEnvC scope cl C X.env) fp) tge1 iter1 it1)
    (hg1 : ∀ (s : Shared) (H : Hp) (C : Addr) (cl : List (Str × Addr)) (fp : List Addr), PG (X.blk s H scope (compEnvC scope cl C X.env) fp) tge1 (tgOf X.KW tg1)) (ht1 : ∀ (s : Shared) (H : Hp) (C : Addr) (cl : List (Str × Addr)) (fp : List Addr), PTs (X.blk s H scope (compEnvC scope cl C X.env) fp) ifs1 (liftT X.KW dt1))
    (he : ∀ (s : Shared) (H : Hp) (C : Addr) (cl : List (Str × Addr)) (fp : List Addr), PE' (X.blk s H scope (compEnvC scope cl C X.env) fp) elt da) (hv : (tgSlots tg).all (fun i => (own.map (·.2)).contains i) = true := by rfl) (hv1 : (tgSlots tg1).all (fun i => vs1.contains i) = true := by rfl) (hvv : ∀ i ∈ vs1, i ∈ own.map (·.2) := by decide)
    (hg0 : Gl X "sorted" := by rfl) (hs : ∀ x, foldedSetIterable iter X.env x = pure x := by intro _; rfl) (hs1 : ∀ env x, foldedSetIterable iter1 env x = pure x := by intro _ _; rfl)
    (he0 : starEach [.SetComp elt [⟨tge, iter, ifs, 0⟩, ⟨tge1, iter1, ifs1, 0⟩] scope pos2] X.env = (false, eval (.SetComp elt [⟨tge, iter, ifs, 0⟩, ⟨tge1, iter1, ifs1, 0⟩] scope pos2) X.env) :: starEach [] X.env := by rfl) (hpl : (backTo pos (starEach [] X.env)).any (·.1) = false := by rfl) :
    PN X (.Call (.Name "sorted" p) [.SetComp elt [⟨tge, iter, ifs, 0⟩, ⟨tge1, iter1, ifs1, 0⟩] scope pos2] [] pos) (nSortSC2 it tg (own.map (·.2)) dt it1 tg1 vs1 dt1 da) :=
  PE.imp (pe_callB (cr_sortG hc hu) hg0 hm bt_sorted (pa_cons (pe_sc2 (te := liftE X.KW da) (tt := liftT X.KW dt) (g := tgOf X.KW tg) (tt1 := liftT X.KW dt1) (g1 := tgOf X.KW tg1) hc hN hi ok hvv hg ht hi1 hg1 ht1 he hs hs1) pa_nil he0) (by decide) (by decide) he0 hpl) fun σ H Q => by
  rintro ⟨W, ρ, S, r, S', R, hd, k⟩
  obtain ⟨⟨fin, S1⟩, e1, hd⟩ := bindS hd
  obtain ⟨L, e2, hd⟩ := mapS hd
  cases hd
  unfold setO at e2
  obtain ⟨ds, h1, e2⟩ := bindS e2
  cases h1
  obtain ⟨kk, h2, e2⟩ := bindS e2
  simp only [Option.ite_none_right_eq_some, Option.some.injEq] at e2
  obtain ⟨⟨h3, h4⟩, rfl⟩ := e2
  refine sc2_of (Q := fun v H1 => rSortG X.KW X.prog X.w [v] H1 Q) (it1 := it1) (P := X.prog) (w0 := X.w) hv hv1 R e1 (ksOf_map h2) h4 fun W1 D H1 s1 R1 hD t1 m1 n1 => ?_
  refine ⟨W1, _, D, metG [] kk, R1.base, rfl, hD, alikeK_sub h3 fun x hx => ((metG_mem kk []).mp hx).resolve_left (by simp), fun l2 vs hl hr => ?_⟩
  obtain ⟨B', s'⟩ := R1.base.alloc (.lst vs) hl
  exact k W1 l2 vs _ (s1.trans s') ⟨B', R1.env⟩ ⟨upd_same, hr, (R1.base.free hl).1, (R1.base.free hl).2, s1.back hl⟩
end
end DL


/-! DL38: is True, is not True -/
namespace DL
open PySem L2 PyProof.Rows
section
variable {X : Cx}
def isbO : D → D → Option D
  | .bl a, .bl b => some (.bl (a == b))
  | _, _ => none
def isnbO : D → D → Option D
  | .bl a, .bl b => some (.bl (!(a == b)))
  | _, _ => none
theorem od_isb : OpR X (compareOp .Is) (rD X.KW isbO) := by
  intro pins s σ H x y v u Q I rx ry ⟨W, S, dx, dy, z, B, r1, r2, hd, k⟩
  unfold isbO at hd
  split at hd
  · cases hd
    cases r1
    cases r2
    cases rx
    cases ry
    exact wpAny_is_plain rfl (fin_bl I (k W _ H (.refl _ _) B rfl) (by rename_i a b; cases a <;> cases b <;> decide))
  · cases hd
theorem od_isnb : OpR X (compareOp .IsNot) (rD X.KW isnbO) := by
  intro pins s σ H x y v u Q I rx ry ⟨W, S, dx, dy, z, B, r1, r2, hd, k⟩
  unfold isnbO at hd
  split at hd
  · cases hd
    cases r1
    cases r2
    cases rx
    cases ry
    exact wpAny_isNot_plain rfl (fin_bl I (k W _ H (.refl _ _) B rfl) (by rename_i a b; cases a <;> cases b <;> decide))
  · cases hd
end
end DL


/-! DL39: min of a list of alike data -/
namespace DL
open PySem PySem.Spec PySem.W L2 PyProof.Rows
def noNone : PyData → Bool
  | .none => false
  | _ => true
def alikeB (xs : List PyData) : Bool := (xs.all fun x => xs.all fun y => alike x y) && xs.all noNone
theorem alikeB_of {xs : List PyData} (h : alikeB xs = true) : AlikeAll xs := by
  unfold alikeB at h
  rw [Bool.and_eq_true, List.all_eq_true, List.all_eq_true] at h
  refine ⟨fun x hx y hy => List.all_eq_true.mp (h.1 x hx) y hy, fun x hx e => ?_⟩
  have := h.2 x hx
  rw [e] at this
  cases this
def minTO : List D → Option D
  | [.lst es] => if eqOks 60 es = true ∧ alikeB (pds es) = true ∧ PyData.depthAll (pds es) ≤ 60 ∧ 0 < es.length then es[argBest (fun i j => dataLt ((pds es).getD i .none) ((pds es).getD j .none)) (es.length - 1)]? else none
  | _ => none
section
variable {X : Cx}
theorem cd_minT (hc : X.calm = true) (hu : X.A.units + 64 < cLine) : CallR X (.builtin "min") (rDc X.KW minTO) := by
  intro pins s σ H xs us Q I r ⟨W, S, ds, z, B, q, hd, k⟩
  unfold minTO at hd
  split at hd
  · rename_i es
    simp only [Option.ite_none_right_eq_some] at hd
    obtain ⟨⟨h1, h2, h3, h4⟩, hd⟩ := hd
    obtain ⟨v, rfl, rv⟩ := reps1 q
    obtain ⟨a, vs, rfl, t, p⟩ := rv
    rw [L2.Vals.ref1 r]
    obtain ⟨its, rvs, pl, hz⟩ := I.list (SqL.of (B.lst t))
    obtain ⟨as, ra⟩ := readss_of I B 60 es h1 p rvs
    have hh : X.A.handled = none := I.ok.hd hc
    have len : its.toArray.size = es.length := by rw [List.size_toArray, ← rvs.length, p.length]
    refine call_min_walkH (iter_listW (A := X.A.in1) hh pl.isList fun s₂ e W' st hfp hw hk => ?_)
    refine ⟨_, _, _, _, _, _, _, s.heap, _, rfl, W', st, hfp, by omega, hw, hk, cmpIn_lt (A := X.A.in1) (xs := pds es) (by simpa using ra) (alikeB_of h2) (by show X.A.units + 1 + _ < _; omega), fun v s' hP m => ?_⟩
    obtain ⟨h', tk, rfl, hk'⟩ := moved_old e rfl m
    rw [len] at hP
    obtain ⟨hi, e1⟩ := List.getElem?_eq_some_iff.mp hd
    have hi2 : argBest (fun i j => dataLt ((pds es).getD i .none) ((pds es).getD j .none)) (es.length - 1) < its.length := by
      rw [← rvs.length, ← p.length] at *
      exact hi
    obtain ⟨x, p1, p2⟩ := p.vals rvs hi2
    have hv : its[argBest (fun i j => dataLt ((pds es).getD i .none) ((pds es).getD j .none)) (es.length - 1)] = v := by
      rw [← Array.getElem?_toList] at hP
      have := List.getElem?_eq_getElem hi2
      rw [show its.toArray.toList = its from rfl, this] at hP
      exact Option.some.inj hP
    rw [hv] at p2
    rw [List.getD_eq_getElem?_getD, hd, Option.getD_some] at p1
    exact ⟨x, H, I.call' (ch := []) rfl (Un.kept hk') (I.hok.kept hk') I.bare (fun _ z => nomatch z), p2, k W x H (.refl _ _) B p1⟩
  · cases hd
end
end DL


/-! DL40: dicts over data: keys, looks -/
namespace DL
open PySem L2 PyProof.Rows

mutual
/-- a key, nested to depth n -/
def kOk : Nat → D → Bool
  | _, .non => true
  | _, .int _ => true
  | _, .str _ => true
  | n + 1, .tup ds => kOks n ds
  | _, _ => false
def kOks : Nat → List D → Bool
  | _, [] => true
  | n, d :: ds => kOk n d && kOks n ds
end
mutual
theorem nk_some : ∀ (n : Nat) (d : D), kOk n d = true → ∃ k, nkD d = some k ∧ k.depth ≤ n
  | n, .non, _ => ⟨.none, by simp [nkD], by simp [NestedKey.depth]⟩
  | n, .int i, _ => ⟨.num i, by simp [nkD], by simp [NestedKey.depth]⟩
  | n, .str s, _ => ⟨.text s, by simp [nkD], by simp [NestedKey.depth]⟩
  | n + 1, .tup ds, h => by
    obtain ⟨ks, h1, h2⟩ := nks_some n ds (by simpa [kOk] using h)
    exact ⟨.tup ks, by simp [nkD, h1], by simp [NestedKey.depth]; exact h2⟩
  | 0, .tup ds, h => by simp [kOk] at h
  | n, .bl _, h => by cases n <;> simp [kOk] at h
  | n, .ref _, h => by cases n <;> simp [kOk] at h
  | n, .lst _, h => by cases n <;> simp [kOk] at h
  | n, .rol _, h => by cases n <;> simp [kOk] at h
  | n, .dcu _ _, h => by cases n <;> simp [kOk] at h
  | n, .dct _ _, h => by cases n <;> simp [kOk] at h
theorem nks_some : ∀ (n : Nat) (ds : List D), kOks n ds = true → ∃ ks, nkDs ds = some ks ∧ NestedKey.depthAll ks ≤ n
  | n, [], _ => ⟨[], by simp [nkDs], by simp [NestedKey.depthAll]⟩
  | n, d :: ds, h => by
    rw [kOks, Bool.and_eq_true] at h
    obtain ⟨k, h1, h2⟩ := nk_some n d h.1
    obtain ⟨ks, h3, h4⟩ := nks_some n ds h.2
    exact ⟨k :: ks, by simp [nkDs, h1, h3], by simp only [NestedKey.depthAll]; exact Nat.max_le.mpr ⟨h2, h4⟩⟩
end
theorem bq {α : Type} [BEq α] [LawfulBEq α] [DecidableEq α] (a b : α) : (a == b) = decide (a = b) := by by_cases h : a = b <;> simp [h]
mutual
theorem nk_eq : ∀ (d e : D) (x y : NestedKey), nkD d = some x → nkD e = some y → eqD d e = decide (x = y) := by
  intro d e x y hx hy
  rw [NestedKey.decide_eq]
  cases d with
  | non => cases hx; cases e <;> simp [nkD] at hy <;> first | (subst hy; simp [eqD, NestedKey.beq, bq]) | (obtain ⟨ks, h1, rfl⟩ := hy; simp [eqD, NestedKey.beq])
  | int i => cases hx; cases e <;> simp [nkD] at hy <;> first | (subst hy; simp [eqD, NestedKey.beq, bq]) | (obtain ⟨ks, h1, rfl⟩ := hy; simp [eqD, NestedKey.beq])
  | str i => cases hx; cases e <;> simp [nkD] at hy <;> first | (subst hy; simp [eqD, NestedKey.beq, bq]) | (obtain ⟨ks, h1, rfl⟩ := hy; simp [eqD, NestedKey.beq])
  | tup ds =>
    simp [nkD] at hx
    obtain ⟨ks, h1, rfl⟩ := hx
    cases e with
    | tup es =>
      simp [nkD] at hy
      obtain ⟨js, h2, rfl⟩ := hy
      simp only [eqD, NestedKey.beq]
      exact nks_eq ds es ks js h1 h2
    | _ => simp [nkD] at hy <;> (subst hy; simp [eqD, NestedKey.beq, bq])
  | _ => simp [nkD] at hx
theorem nks_eq : ∀ (ds es : List D) (xs ys : List NestedKey), nkDs ds = some xs → nkDs es = some ys → eqDs ds es = NestedKey.beqAll xs ys
  | [], [], _, _, hx, hy => by simp [nkDs] at hx hy; subst hx hy; simp [eqDs, NestedKey.beqAll]
  | [], e :: es, _, _, hx, hy => by
    rw [nkDs] at hy
    obtain ⟨k, h1, hy⟩ := bindS hy
    obtain ⟨ks, h2, rfl⟩ := mapS hy
    cases hx
    simp [eqDs, NestedKey.beqAll]
  | d :: ds, [], _, _, hx, hy => by
    rw [nkDs] at hx
    obtain ⟨k, h1, hx⟩ := bindS hx
    obtain ⟨ks, h2, rfl⟩ := mapS hx
    cases hy
    simp [eqDs, NestedKey.beqAll]
  | d :: ds, e :: es, _, _, hx, hy => by
    rw [nkDs] at hx
    rw [nkDs] at hy
    obtain ⟨k, h1, hx⟩ := bindS hx
    obtain ⟨ks, h2, rfl⟩ := mapS hx
    obtain ⟨j, h3, hy⟩ := bindS hy
    obtain ⟨js, h4, rfl⟩ := mapS hy
    simp only [eqDs, NestedKey.beqAll]
    rw [nk_eq d e k j h1 h3, nks_eq ds es ks js h2 h4, NestedKey.decide_eq]
end
theorem keyD_eq (a b : Key) : eqD (keyD a) (keyD b) = decide (a = b) := by
  cases a <;> cases b <;> simp [keyD, eqD, bq]

/-- the family of a key: an int or a text; a tuple -/
def famD : D → Option Bool
  | .int _ => some true
  | .str _ => some true
  | .tup ds => if kOks 7 ds = true then some false else none
  | _ => none
def keyFit (ks : List D) (k : D) : Bool := match famD k with
  | some b => ks.all fun j => famD j == some b
  | none => false
def dget : List D → List D → D → Option D
  | k' :: ks, v :: vs, k => if eqD k' k then some v else dget ks vs k
  | _, _, _ => none
/-- the dict after d[k] = v -/
def dput : List D → List D → D → D → List D × List D
  | k' :: ks, v' :: vs, k, v => if eqD k' k then (k' :: ks, v :: vs) else let r := dput ks vs k v; (k' :: r.1, v' :: r.2)
  | _, _, k, v => ([k], [v])
theorem fam_leaf {d : D} (h : famD d = some true) : ∃ k, d = keyD k := by
  cases d with
  | int i => exact ⟨.inl i, rfl⟩
  | str s => exact ⟨.inr s, rfl⟩
  | tup ds => simp [famD] at h
  | _ => simp [famD] at h
theorem fam_tup {d : D} (h : famD d = some false) : ∃ ds k, d = .tup ds ∧ nkD d = some k ∧ k.depth ≤ 8 := by
  cases d with
  | tup ds =>
    simp only [famD, Option.ite_none_right_eq_some] at h
    obtain ⟨k, h1, h2⟩ := nk_some 8 (.tup ds) (by rw [kOk]; exact h.1)
    exact ⟨ds, k, rfl, h1, h2⟩
  | _ => simp [famD] at h
theorem fam_keyD (k : Key) : famD (keyD k) = some true := by cases k <;> rfl

def OptR (W : Wd) : Option D → Option Value → Prop
  | none, none => True
  | some d, some u => ∃ v, Rep W d v ∧ RelV v u
  | _, _ => False
theorem OptR.isSome {W : Wd} : ∀ {o : Option D} {u : Option Value}, OptR W o u → u.isSome = o.isSome
  | none, none, _ => rfl
  | some _, some _, _ => rfl
  | none, some _, h => h.elim
  | some _, none, h => h.elim

section
variable {X : Cx} {W : Wd} {S : Sh} {H : Hp} {pins : List (Addr × Obj)} {σ : L2.St} {s : Shared}
mutual
theorem nk_is (I : Inv X pins σ H s) (B : Base X.KW W S H) : ∀ (d : D) (v : V) (u : Value) (k : NestedKey), nkD d = some k → Rep W d v → RelV v u → NestedIs s.heap k u
  | .non, v, u, k, h, r, q => by
    simp [nkD] at h; subst h
    obtain rfl : v = .non := r
    obtain rfl : u = Value.none := q
    exact .none
  | .int i, v, u, k, h, r, q => by
    simp [nkD] at h; subst h
    obtain rfl : v = .int i := r
    obtain ⟨t, rfl⟩ : ∃ t, u = Value.int i t := q
    exact .int _ _
  | .str i, v, u, k, h, r, q => by
    simp [nkD] at h; subst h
    obtain rfl : v = .str i := r
    obtain ⟨t, rfl⟩ : ∃ t, u = Value.str i t := q
    exact .text _ _
  | .tup ds, v, u, k, h, r, q => by
    simp [nkD] at h
    obtain ⟨ks, h1, rfl⟩ := h
    obtain ⟨a, vs, us, rfl, rfl, q1, r1, ⟨o, e1, e2, n, e3⟩, t⟩ := B.isTup I r q
    exact .tup e1 e2 e3 (by simpa using nks_is I B ds vs us ks h1 q1 r1)
  | .bl _, _, _, _, h, _, _ => by simp [nkD] at h
  | .ref _, _, _, _, h, _, _ => by simp [nkD] at h
  | .lst _, _, _, _, h, _, _ => by simp [nkD] at h
  | .rol _, _, _, _, h, _, _ => by simp [nkD] at h
  | .dcu _ _, _, _, _, h, _, _ => by simp [nkD] at h
  | .dct _ _, _, _, _, h, _, _ => by simp [nkD] at h
theorem nks_is (I : Inv X pins σ H s) (B : Base X.KW W S H) : ∀ (ds : List D) (vs : List V) (us : List Value) (ks : List NestedKey), nkDs ds = some ks → Reps W ds vs → Vals vs us → NestedAll s.heap ks us
  | [], vs, us, ks, h, r, q => by
    simp [nkDs] at h; subst h
    obtain rfl : vs = [] := r
    cases q
    exact .nil
  | d :: ds, vs, us, ks, h, r, q => by
    rw [nkDs] at h
    obtain ⟨k, h1, h⟩ := bindS h
    obtain ⟨ks', h2, rfl⟩ := mapS h
    obtain ⟨v, r', rfl, r1, r2⟩ := r
    cases q with
    | cons q1 q2 => exact .cons (nk_is I B d v _ k h1 r1 q1) (nks_is I B ds r' _ ks' h2 r2 q2)
end

/-- a dict of data stands at a -/
def DAt (W : Wd) (H : Hp) (a : Addr) (ks vs : List D) : Prop := ∃ ho us ws, Rd H a ho ∧ DctO W.w a ho ks us ws ∧ Reps W ks us ∧ Reps W vs ws
def dctD : D → Option (List D × List D)
  | .dct ks vs => some (ks, vs)
  | .dcu ks vs => some (ks, vs)
  | _ => none
theorem DctO.own {w : World} {a : Addr} {ho : HO} {ks : List D} {us ws : List V} (h : DctO w a ho ks us ws) : ownO ho := by
  rcases h with ⟨kvs, rfl, _⟩ | ⟨xs, _, rfl, _⟩ <;> exact trivial
theorem Base.dct (B : Base X.KW W S H) {d : D} {v : V} {p : List D × List D} (h : dctD d = some p) (r : Rep W d v) : ∃ a, v = .ref a ∧ DAt W H a p.1 p.2 := by
  cases d with
  | dct ks vs =>
    cases h
    obtain ⟨a, o, ho, us, ws, rfl, t, q, r1, r2⟩ := r
    exact ⟨a, rfl, ho, us, ws, .inr ⟨o, B.fro a _ t⟩, q, r1, r2⟩
  | dcu ks vs =>
    cases h
    obtain ⟨a, ho, us, ws, rfl, t, q, r1, r2⟩ := r
    have st := B.fro a _ t
    refine ⟨a, rfl, ho, us, ws, ?_, q, r1, r2⟩
    rcases q with ⟨kvs, rfl, _⟩ | ⟨xs, _, rfl, _⟩
    · exact st
    · exact st
  | _ => cases h

/-- the entries as the machine has them: ints and texts; tuples -/
def LeafAt (X : Cx) (W : Wd) (s : Shared) (a : Addr) (ks vs : List D) (k : D) (u : Value) : Prop := ∃ vs' k', s.heap.DictOf (mixKind X.prog X.w) a vs' ∧ (mixKind X.prog X.w).is k' u = true ∧ vs'.length ≤ sizeLine ∧ OptR W (dget ks vs k) (valueAt vs' k')
def TupAt (X : Cx) (W : Wd) (s : Shared) (a : Addr) (ks vs : List D) (k : D) (u : Value) : Prop := ∃ ys k' b, u = .ref b ∧ s.heap.DictOfH (nestedKind X.prog X.w) a ys ∧ (nestedKind X.prog X.w).is s.heap k' b ∧ ys.length ≤ sizeLine ∧ OptR W (dget ks vs k) ((atKey ys k').map (·.2))
theorem val_cons {κ : Type} [DecidableEq κ] (p : κ × Value) (us : List (κ × Value)) (k : κ) : valueAt (p :: us) k = if p.1 = k then some p.2 else valueAt us k := by
  unfold valueAt
  rw [List.find?_cons]
  by_cases c : p.1 = k <;> simp [c]
theorem at_cons {κ : Type} [DecidableEq κ] (p : κ × Addr × Value) (us : List (κ × Addr × Value)) (k : κ) : atKey (p :: us) k = if p.1 = k then some p.2 else atKey us k := by
  unfold atKey
  rw [List.find?_cons]
  by_cases c : p.1 = k <;> simp [c]
theorem leaf_val {W : Wd} (k : Key) : ∀ {kvs : List (Key × V)} {vs : List D} {us : List (Key × Value)}, Reps W vs (kvs.map (·.2)) → KV kvs us → OptR W (dget (kvs.map fun p => keyD p.1) vs (keyD k)) (valueAt us k)
  | [], vs, _, r, .nil => by
    have : vs = [] := by have := r.length; simpa using this.symm
    subst this
    exact trivial
  | p :: kvs, vs, _, r, @Paired.cons _ _ _ _ u _ us ⟨e1, e2⟩ t => by
    cases vs with
    | nil =>
      have := r.length
      simp at this
    | cons d vs =>
      obtain ⟨v, r', h1, h2, h3⟩ := r
      rw [List.map_cons] at h1
      injection h1 with h1 h1'
      subst h1 h1'
      rw [List.map_cons, dget, keyD_eq, val_cons, ← e1]
      by_cases c : p.1 = k
      · simp only [c, decide_true, if_true]
        exact ⟨_, h2, e2⟩
      · simp only [c, decide_false, if_false]
        exact leaf_val k h3 t
abbrev NdR : (NestedKey × Addr × V) → (NestedKey × Addr × Value) → Prop := fun p q => p.1 = q.1 ∧ p.2.1 = q.2.1 ∧ RelV p.2.2 q.2.2
theorem tup_val {W : Wd} {k : D} {k0 : NestedKey} (hk : nkD k = some k0) : ∀ {xs : List (NestedKey × Addr × V)} {ks vs : List D} {us : List (NestedKey × Addr × Value)}, ks.map nkD = xs.map (fun x => some x.1) → Reps W vs (xs.map (·.2.2)) → Paired NdR xs us →
    OptR W (dget ks vs k) ((atKey us k0).map (·.2))
  | [], ks, vs, _, e, r, .nil => by
    have : ks = [] := by simpa using e
    subst this
    have : vs = [] := by have := r.length; simpa using this.symm
    subst this
    exact trivial
  | p :: xs, [], _, _, e, _, _ => by simp at e
  | p :: xs, j :: ks, [], _, _, r, _ => by have := r.length; simp at this
  | p :: xs, j :: ks, d :: vs, _, e, r, @Paired.cons _ _ _ _ u _ us ⟨e1, e2, e3⟩ t => by
    obtain ⟨v, r', h1, h2, h3⟩ := r
    rw [List.map_cons] at h1
    injection h1 with h1 h1'
    subst h1 h1'
    rw [List.map_cons, List.map_cons] at e
    injection e with e4 e5
    rw [dget, nk_eq j k p.1 k0 e4 hk, at_cons, ← e1]
    by_cases c : p.1 = k0
    · simp only [c, decide_true, if_true, Option.map_some]
      exact ⟨_, h2, e3⟩
    · simp only [c, decide_false, if_false, Bool.false_eq_true]
      exact tup_val hk e5 h3 t
theorem all_fam {ks : List D} {b : Bool} (h : (ks.all fun j => famD j == some b) = true) {d : D} (hd : d ∈ ks) : famD d = some b := by
  have := List.all_eq_true.mp h d hd
  simpa using this
theorem DAt.split (I : Inv X pins σ H s) (B : Base X.KW W S H) {a : Addr} {ks vs : List D} {k : D} {y : V} {u : Value} (hd : DAt W H a ks vs) (fit : keyFit ks k = true) (rk : Rep W k y) (ry : RelV y u) :
    (a == sysModules) = false ∧ (LeafAt X W s a ks vs k u ∨ TupAt X W s a ks vs k u) := by
  obtain ⟨ho, us, ws, rd, q, r1, r2⟩ := hd
  have hw : W.w = X.w := B.sa.1
  unfold keyFit at fit
  cases hf : famD k with
  | none => rw [hf] at fit; cases fit
  | some b =>
    rw [hf] at fit
    cases b with
    | true =>
      obtain ⟨k0, rfl⟩ := fam_leaf hf
      have hy : y = kV k0 := by cases k0 <;> exact rk
      subst hy
      rcases q with ⟨kvs, rfl, rfl, rfl, rfl⟩ | ⟨xs, ne, rfl, e, rfl, rfl⟩
      · obtain ⟨z, hd, vs', rel, dd⟩ := dk_rd I.hok rd
        exact ⟨hd, .inl ⟨vs', k0, dd, kV_is ry, by rw [← rel.length]; exact z, leaf_val k0 r2 rel⟩⟩
      · exfalso
        cases xs with
        | nil => exact ne rfl
        | cons x xs =>
          cases ks with
          | nil => simp at e
          | cons j ks =>
            obtain ⟨k1, rfl⟩ := fam_leaf (all_fam fit (d := j) (by simp))
            obtain ⟨v, r', h1, h2, _⟩ := r1
            rw [List.map_cons] at h1
            injection h1 with h1 _
            have : v = kV k1 := by cases k1 <;> exact h2
            rw [this] at h1
            cases k1 <;> cases h1
    | false =>
      obtain ⟨ds, k0, rfl, hk, hdep⟩ := fam_tup hf
      have hn := nk_is I B _ y u k0 hk rk ry
      obtain ⟨b, vs1, us1, rfl, rfl, _⟩ := B.isTup I rk ry
      rcases q with ⟨kvs, rfl, rfl, rfl, rfl⟩ | ⟨xs, ne, rfl, e, rfl, rfl⟩
      · obtain ⟨z, hd, vs', rel, dd⟩ := dk_rd I.hok rd
        have e0 : kvs = [] := by
          cases kvs with
          | nil => rfl
          | cons p kvs =>
            have := all_fam fit (d := keyD p.1) (by simp)
            rw [fam_keyD] at this; cases this
        subst e0
        cases rel
        obtain ⟨o, es, ep, h1, h2, h3, _, h5, _⟩ := dd
        have ee : es.toList = [] := by
          generalize es.toList = l at h5
          cases h5; rfl
        refine ⟨hd, .inr ⟨[], k0, b, rfl, ⟨o, es, ep, h1, h2, h3, by rw [ee]; rfl, fun x hx => by simp at hx, List.nodup_nil⟩, ⟨hn, hdep⟩, by simp, ?_⟩⟩
        cases vs with
        | nil => exact trivial
        | cons d vs => have := r2.length; simp at this
      · have ok : NdAt W.w a xs s.heap := (rd.ok I.hok).1
        obtain ⟨z, hd, ys, pr, o, es, ep, h1, h2, h3, h4, h5⟩ := ok
        refine ⟨hd, .inr ⟨ys, k0, b, rfl, ⟨o, es, ep, h1, h2, h3, by rw [h4, hw]; rfl, fun x hx => ?_, h5⟩, ⟨hn, hdep⟩, by rw [← Paired.length pr]; exact z, tup_val hk e r2 pr⟩⟩
        obtain ⟨i, hi⟩ := List.getElem?_of_mem hx
        have hl : xs.length = ys.length := Paired.length pr
        have il : i < ys.length := (List.getElem?_eq_some_iff.mp hi).1
        obtain ⟨p, hp⟩ : ∃ p, xs[i]? = some p := ⟨xs[i], List.getElem?_eq_getElem (by omega)⟩
        obtain ⟨x', hx', e1, e2, _⟩ := paired_get pr hp
        rw [hi] at hx'; cases hx'
        have lk : ks.length = xs.length := by have := congrArg List.length e; simpa using this
        obtain ⟨j, hj⟩ : ∃ j, ks[i]? = some j := ⟨ks[i], List.getElem?_eq_getElem (by omega)⟩
        obtain ⟨v, hv, rv⟩ := r1.get hj
        rw [List.getElem?_map, hp] at hv
        cases hv
        have en : nkD j = some p.1 := by
          have := congrArg (fun l => l[i]?) e
          simp only [List.getElem?_map, hj, hp, Option.map_some] at this
          exact Option.some.inj this
        have fj := all_fam fit (List.mem_of_getElem? hj)
        obtain ⟨ds', k', rfl, hk', hdep'⟩ := fam_tup fj
        rw [hk'] at en; cases en
        have := nk_is I B _ _ (.ref p.2.1) p.1 hk' rv rfl
        rw [← e1, ← e2]
        exact ⟨this, hdep'⟩
/-! ### the looks -/
variable {a : Addr} {ks vs : List D} {k : D} {y : V} {u : Value} {A : Around} {E : Value → Shared → Prop}
theorem nroom (hu : A.units + 64 < cLine) : (nestedKind X.prog X.w).room A.in1 := by
  show A.units + 1 + 8 < cLine
  omega
theorem dctIn {Q : Value → Shared → Prop} (hu : A.units + 64 < cLine) (I : Inv X pins σ H s) (B : Base X.KW W S H) (hd : DAt W H a ks vs) (fit : keyFit ks k = true) (rk : Rep W k y) (ry : RelV y u) (h : ∀ s', Inv X pins σ H s' → Q (.bool (dget ks vs k).isSome) s') :
    wpAny (model X.prog X.w) A (compareOp .In u (.ref a)) Q E s := by
  obtain ⟨z, ⟨vs', k', dd, ik, _, q⟩ | ⟨ys, k', b, rfl, dd, ik, _, q⟩⟩ := hd.split I B fit rk ry
  · exact wpAny_in_of ik z dd.mapOf (by rw [q.isSome]; exact h _ (I.tok _))
  · refine wpAny_in_heap (nroom hu) ik z dd ?_
    have := q.isSome
    rw [Option.isSome_map] at this
    rw [this]
    exact h _ (I.tok _)
theorem dctNotIn {Q : Value → Shared → Prop} (hu : A.units + 64 < cLine) (I : Inv X pins σ H s) (B : Base X.KW W S H) (hd : DAt W H a ks vs) (fit : keyFit ks k = true) (rk : Rep W k y) (ry : RelV y u) (h : ∀ s', Inv X pins σ H s' → Q (.bool (!(dget ks vs k).isSome)) s') :
    wpAny (model X.prog X.w) A (compareOp .NotIn u (.ref a)) Q E s := by
  obtain ⟨z, ⟨vs', k', dd, ik, _, q⟩ | ⟨ys, k', b, rfl, dd, ik, _, q⟩⟩ := hd.split I B fit rk ry
  · exact wpAny_notIn_of ik z dd.mapOf (by rw [q.isSome]; exact h _ (I.tok _))
  · refine wpAny_notIn_heap (nroom hu) ik z dd ?_
    have := q.isSome
    rw [Option.isSome_map] at this
    rw [this]
    exact h _ (I.tok _)
theorem OptR.some_of {W : Wd} {d : D} {u : Option Value} (h : OptR W (some d) u) : ∃ w v, u = some w ∧ Rep W d v ∧ RelV v w := by
  cases u with
  | none => exact h.elim
  | some w => obtain ⟨v, h1, h2⟩ := h; exact ⟨w, v, rfl, h1, h2⟩
theorem dctItem {Q : Value → Shared → Prop} {d : D} (hu : A.units + 64 < cLine) (I : Inv X pins σ H s) (B : Base X.KW W S H) (hd : DAt W H a ks vs) (fit : keyFit ks k = true) (hg : dget ks vs k = some d) (rk : Rep W k y) (ry : RelV y u) (h : ∀ w v s', Inv X pins σ H s' → Rep W d v → RelV v w → Q w s') :
    wpAny (model X.prog X.w) A (getItem (.ref a) u) Q E s := by
  obtain ⟨z, ⟨vs', k', dd, ik, _, q⟩ | ⟨ys, k', b, rfl, dd, ik, _, q⟩⟩ := hd.split I B fit rk ry
  · rw [hg] at q
    obtain ⟨w, v, e, r1, r2⟩ := q.some_of
    exact wpAny_getItem_of ik dd.mapOf e (h w v _ (I.tok _) r1 r2)
  · rw [hg] at q
    obtain ⟨w, v, e, r1, r2⟩ := q.some_of
    obtain ⟨p, hp, rfl⟩ := Option.map_eq_some_iff.mp e
    exact wpAny_getItem_heap (nroom hu) ik dd hp (h _ v _ (I.tok _) r1 r2)
theorem OptR.getD {W : Wd} {o : Option D} {u : Option Value} (h : OptR W o u) {d : D} {v : V} {w : Value} (r : Rep W d v) (q : RelV v w) : ∃ v', Rep W (o.getD d) v' ∧ RelV v' (u.getD w) := by
  cases o <;> cases u
  · exact ⟨v, r, q⟩
  · exact h.elim
  · exact h.elim
  · exact h
theorem dctGet2 {Q : Value → Shared → Prop} {d : D} {x : V} {r : Value} (hu : A.units + 64 < cLine) (I : Inv X pins σ H s) (B : Base X.KW W S H) (hd : DAt W H a ks vs) (fit : keyFit ks k = true) (rk : Rep W k y) (ry : RelV y u) (rd : Rep W d x) (rx : RelV x r)
    (h : ∀ w v s', Inv X pins σ H s' → Rep W ((dget ks vs k).getD d) v → RelV v w → Q w s') : wpAny (model X.prog X.w) A (call (.builtin "dict.get") [.ref a, u, r]) Q E s := by
  obtain ⟨z, ⟨vs', k', dd, ik, _, q⟩ | ⟨ys, k', b, rfl, dd, ik, _, q⟩⟩ := hd.split I B fit rk ry
  · obtain ⟨v', r1, r2⟩ := q.getD rd rx
    exact call_meetsIn PySem.F.slot_dict_get dd.typeIs PySem.F.entry_dict_get (PySem.F.args_dict_get_3 _ _ _) (meets_dict_get_default (mixKind X.prog X.w) a ik z r) ⟨_, dd.mapOf, h _ v' _ (I.tok _) r1 r2⟩
  · obtain ⟨v', r1, r2⟩ := q.getD rd rx
    exact call_meetsIn PySem.F.slot_dict_get dd.typeIs PySem.F.entry_dict_get (PySem.F.args_dict_get_3 _ _ _) (meetsH_dict_get_default (nestedKind X.prog X.w) a b z r) ⟨nroom hu, k', ys, ik, dd, h _ v' _ (I.tok _) r1 r2⟩
/-- the dict's object -/
theorem DAt.obj (I : Inv X pins σ H s) (hd : DAt W H a ks vs) : (a == sysModules) = false ∧ ∃ o es ep, s.heap.get? a = some o ∧ o.ExactDict ∧ o.data = .dict es ep ∧ es.size = ks.length ∧ ks.length = vs.length ∧ ks.length ≤ sizeLine := by
  obtain ⟨ho, us, ws, rd, q, r1, r2⟩ := hd
  rcases q with ⟨kvs, rfl, rfl, rfl, rfl⟩ | ⟨xs, ne, rfl, e, rfl, rfl⟩
  · obtain ⟨z, hd, vs', rel, o, es, ep, h1, h2, h3, _, h5, _⟩ := dk_rd I.hok rd
    refine ⟨hd, o, es, ep, h1, h2, h3, ?_, ?_, ?_⟩
    · have l1 := h5.length
      have l2 : kvs.length = vs'.length := rel.length
      rw [Array.length_toList] at l1
      simp; omega
    · have := r2.length; simpa using this
    · simpa using z
  · obtain ⟨z, hd, ys, pr, o, es, ep, h1, h2, h3, h4, h5⟩ := show NdAt W.w a xs s.heap from (rd.ok I.hok).1
    have lk : ks.length = xs.length := by have := congrArg List.length e; simpa using this
    refine ⟨hd, o, es, ep, h1, h2, h3, ?_, ?_, by rw [lk]; exact z⟩
    · have l1 := congrArg List.length h4
      rw [Array.length_toList, List.length_map, ← Paired.length pr] at l1
      omega
    · have := r2.length
      rw [List.length_map] at this
      omega
end
end DL


/-! DL41: dicts over data: in, d[k], d.get(k, x), list(d), walks -/
namespace DL
open PySem L2 PyProof.Rows

def dlook (d k : D) : Option (Option D) := (dctD d).bind fun p => if keyFit p.1 k = true then some (dget p.1 p.2 k) else none
def dinO (k d : D) : Option D := (dlook d k).map fun o => .bl o.isSome
def dninO (k d : D) : Option D := (dlook d k).map fun o => .bl (!o.isSome)
def ditemO (d k : D) : Option D := (dlook d k).bind fun o => o
def dlook_inv {d k : D} {o : Option D} (h : dlook d k = some o) : ∃ p, dctD d = some p ∧ keyFit p.1 k = true ∧ o = dget p.1 p.2 k := by
  obtain ⟨p, h1, h2⟩ := bindS h
  simp only [Option.ite_none_right_eq_some, Option.some.injEq] at h2
  exact ⟨p, h1, h2.1, h2.2.symm⟩
section
variable {X : Cx} {a b c e f o : Expr} {es : List Expr} {da db dc : DE} {dl : DA} {pos : Pos}
theorem od_din (hu : X.A.units + 64 < cLine) : OpR X (compareOp .In) (rD X.KW dinO) := by
  intro pins s σ H x y v u Q I rx ry ⟨W, S, dx, dy, z, B, r1, r2, hd, k⟩
  obtain ⟨g, h1, rfl⟩ := mapS hd
  obtain ⟨p, h2, h3, rfl⟩ := dlook_inv h1
  obtain ⟨a, rfl, q⟩ := B.dct h2 r2
  cases ry
  exact dctIn hu I B q h3 r1 rx fun s' I' => ⟨.bl _, H, I', rfl, k W _ H (.refl _ _) B rfl⟩
theorem od_dnin (hu : X.A.units + 64 < cLine) : OpR X (compareOp .NotIn) (rD X.KW dninO) := by
  intro pins s σ H x y v u Q I rx ry ⟨W, S, dx, dy, z, B, r1, r2, hd, k⟩
  obtain ⟨g, h1, rfl⟩ := mapS hd
  obtain ⟨p, h2, h3, rfl⟩ := dlook_inv h1
  obtain ⟨a, rfl, q⟩ := B.dct h2 r2
  cases ry
  exact dctNotIn hu I B q h3 r1 rx fun s' I' => ⟨.bl _, H, I', rfl, k W _ H (.refl _ _) B rfl⟩
theorem ixd_dct (hu : X.A.units + 64 < cLine) : IxR X (rD X.KW ditemO) := by
  intro value slice pins s σ H x y v u Q I rx ry ⟨W, S, dx, dy, z, B, r1, r2, hd, k⟩ hs
  obtain ⟨g, h1, h2⟩ := bindS hd
  obtain ⟨p, h3, h4, rfl⟩ := dlook_inv h1
  obtain ⟨a, rfl, q⟩ := B.dct h3 r1
  cases rx
  have T : s.TypeIs (.ref a) "dict" := by
    obtain ⟨_, ob, es, ep, e1, e2, _⟩ := q.obj I
    exact ⟨ob, e1, e2.1⟩
  exact tail_any T PySem.F.slot_dict_getitem.lookup (dctItem hu I B q h4 h2 r2 ry fun w v' s' I' r3 r4 => ⟨v', H, I', r4, k W _ H (.refl _ _) B r3⟩) hs
theorem dpe_dix (hu : X.A.units + 64 < cLine) (ha : PE' X a da) (hb : PE' X b db) (hs : PlainIx b) : PE' X (.Subscript a b pos) (d2 ditemO da db) := lift2 (fun h1 h2 => L2.pe_ix (ixd_dct hu) h1 h2 hs) ha hb
/-- d.get(k, x) -/
def dGet2 (dd dk dx : DE) : DE := fun ρ S => (dd ρ S).bind fun p => (dk ρ p.2).bind fun q => (dx ρ q.2).bind fun r => (dlook p.1 q.1).map fun o => (o.getD r.1, r.2)
theorem dpe_dget2 {apos : Pos} (hu : X.A.units + 64 < cLine) (ho : PE' X o da) (he : PE' X e db) (hf : PE' X f dc) (m : M2 X o "get" apos e f pos) : PE' X (.Call (.Attribute o "get" apos) [e, f] [] pos) (dGet2 da db dc) := by
  refine ⟨fun pins s σ H Q I h => ?_⟩
  obtain ⟨W, ρ, S, r, S', R, hd, k⟩ := h
  obtain ⟨⟨d, S1⟩, e1, hd⟩ := bindS hd
  obtain ⟨⟨x, S2⟩, e2, hd⟩ := bindS hd
  obtain ⟨⟨y, S3⟩, e3, hd⟩ := bindS hd
  obtain ⟨g, e4, hd⟩ := mapS hd
  cases hd
  obtain ⟨p, h3, h4, rfl⟩ := dlook_inv e4
  refine wpAny_Call_method m.base m.few m.line PySem.F.plainAttrs_dict PySem.F.slot_dict_get PySem.F.type_dict_get (thn (ho.run pins s σ H (fun v H1 => ∃ W1, Stp W W1 H H1 ∧ Rel X.KW W1 ρ S1 σ H1 ∧ Rep W1 d v) I ⟨W, ρ, S, d, S1, R, e1, fun W1 v H1 s1 R1 r1 => ⟨W1, s1, R1, r1⟩⟩) fun u s1 ⟨v, H1, I1, rv, W1, st1, R1, r1⟩ => ?_)
  obtain ⟨a, rfl, q⟩ := R1.base.dct h3 r1
  obtain rfl : u = Value.ref a := rv
  obtain ⟨_, ob, es, ep, p1, p2, _⟩ := q.obj I1
  refine ⟨⟨ob, p1, p2.1⟩, fun b' hb' => by cases hb'; exact ⟨ob, p1, p2.2.1⟩, ?_⟩
  rw [m.trees]
  refine Calls.callWith_builtin rfl (Calls.evalArgs_plain (Calls.spliced_cons (thn (he.run pins s1 σ H1 (fun v H2 => ∃ W2, Stp W1 W2 H1 H2 ∧ Rel X.KW W2 ρ S2 σ H2 ∧ Rep W2 x v) I1 ⟨W1, ρ, S1, x, S2, R1, e2, fun W2 v H2 s2 R2 r2 => ⟨W2, s2, R2, r2⟩⟩) fun kv s2 ⟨vk, H2, I2, rk, W2, st2, R2, r2⟩ => ?_)))
  refine Calls.spliced_cons (thn (hf.run pins s2 σ H2 (fun v H3 => ∃ W3, Stp W2 W3 H2 H3 ∧ Rel X.KW W3 ρ S3 σ H3 ∧ Rep W3 y v) I2 ⟨W2, ρ, S2, y, S3, R2, e3, fun W3 v H3 s3 R3 r3 => ⟨W3, s3, R3, r3⟩⟩) fun xv s3 ⟨vx, H3, I3, rx, W3, st3, R3, r3⟩ => Calls.spliced_nil ?_)
  have st23 := st2.trans st3
  obtain ⟨a', ea, q3⟩ := R3.base.dct h3 (r1.mono st23.le)
  cases ea
  exact dctGet2 hu I3 R3.base q3 h4 (r2.mono st3.le) rk r3 rx fun w v' s4 I4 r4 rw4 => ⟨v', H3, I4, rw4, k W3 _ H3 (st1.trans st23) R3 r4⟩
end

/-! ### the entries in their order -/
section
variable {X : Cx} {W : Wd} {S : Sh} {H : Hp} {pins : List (Addr × Obj)} {σ : L2.St} {s : Shared}
theorem pairs_get {K : Type} [DecidableEq K] {P : Program} {w : World} {knd : KeyKind P w K} {l : List DictEntry} {kvs : List (K × Value)} (h : Pairs knd l kvs) : ∀ (i : Nat) (en : DictEntry), l[i]? = some en → ∃ kv, kvs[i]? = some kv ∧ knd.is kv.1 en.key = true ∧ en.val = kv.2 := by
  induction h with
  | nil => intro i en e; simp at e
  | cons p1 p2 _ ih =>
    intro i en e
    cases i with
    | zero => simp at e; subst e; exact ⟨_, rfl, p1, p2⟩
    | succ i => simpa using ih i en (by simpa using e)
theorem paired_back {α β : Type} {G : α → β → Prop} {l₁ : List α} {l₂ : List β} (h : Paired G l₁ l₂) : ∀ {i : Nat} {b : β}, l₂[i]? = some b → ∃ a, l₁[i]? = some a ∧ G a b := by
  induction h with
  | nil => intro i b e; simp at e
  | @cons x y l₁ l₂ r t ih =>
    intro i b e
    cases i with
    | zero => simp at e; subst e; exact ⟨x, rfl, r⟩
    | succ i => simpa using ih (i := i) (b := b) (by simpa using e)
def EntsR (es : Array DictEntry) (us ws : List V) : Prop := es.size = us.length ∧ us.length = ws.length ∧ ∀ (i : Nat) (hi : i < es.size), ∃ u w, us[i]? = some u ∧ ws[i]? = some w ∧ RelV u es[i].key ∧ RelV w es[i].val
theorem DctO.raw {w : World} {a : Addr} {ho : HO} {ks : List D} {us ws : List V} (I : Inv X pins σ H s) (rd : Rd H a ho) (q : DctO w a ho ks us ws) :
    (a == sysModules) = false ∧ us.length ≤ sizeLine ∧ ∃ o es ep, s.heap.get? a = some o ∧ o.ExactDict ∧ o.data = .dict es ep ∧ EntsR es us ws := by
  rcases q with ⟨kvs, rfl, rfl, rfl, rfl⟩ | ⟨xs, ne, rfl, e, rfl, rfl⟩
  · obtain ⟨z, hd, vs', rel, o, es, ep, h1, h2, h3, _, h5, _⟩ := dk_rd I.hok rd
    have l1 := h5.length
    have l2 : kvs.length = vs'.length := rel.length
    rw [Array.length_toList] at l1
    refine ⟨hd, by simpa using z, o, es, ep, h1, h2, h3, by simp; omega, by simp, fun i hi => ?_⟩
    obtain ⟨kv, g1, g2, g3⟩ := pairs_get h5 i es[i] (by simp [hi])
    obtain ⟨p, g4, g5, g6⟩ := paired_back rel g1
    refine ⟨kV p.1, p.2, by simp [g4], by simp [g4], ?_, by rw [g3]; exact g6⟩
    rw [g5]
    exact relV_key g2
  · obtain ⟨z, hd, ys, pr, o, es, ep, h1, h2, h3, h4, h5⟩ := show NdAt w a xs s.heap from (rd.ok I.hok).1
    have l1 := congrArg List.length h4
    have l2 : xs.length = ys.length := Paired.length pr
    rw [Array.length_toList, List.length_map] at l1
    refine ⟨hd, by simpa using z, o, es, ep, h1, h2, h3, by simp; omega, by simp, fun i hi => ?_⟩
    have g0 : es.toList[i]? = some es[i] := by simp [hi]
    rw [h4, List.getElem?_map] at g0
    obtain ⟨y, g1, g2⟩ := mapS g0
    obtain ⟨p, g3, g4, g5, g6⟩ := paired_back pr g1
    refine ⟨V.ref p.2.1, p.2.2, by simp [g3], by simp [g3], ?_, by rw [← g2]; exact g6⟩
    rw [← g2, g5]
    exact rfl
theorem vals_get : ∀ {xs : List V} {us : List Value}, xs.length = us.length → (∀ (i : Nat) u, us[i]? = some u → ∃ x, xs[i]? = some x ∧ RelV x u) → Vals xs us
  | [], [], _, _ => .nil
  | x :: xs, u :: us, l, h => by
    obtain ⟨y, h1, h2⟩ := h 0 u rfl
    cases h1
    exact .cons h2 (vals_get (by simpa using l) fun i w e => by simpa using h (i + 1) w (by simpa using e))
  | [], _ :: _, l, _ => by simp at l
  | _ :: _, [], l, _ => by simp at l
end
/-! ### list(d) -/
section
variable {X : Cx} {e : Expr} {da : DE} {pos : Pos}
def nKeys (dl : DE) : DN := fun ρ S => (dl ρ S).bind fun p => (dctD p.1).map fun q => (q.1, p.2)
theorem call_list_dct (hc : X.calm = true) : CallR X (.type "list") (fun xs H Q => ∃ (w : World) (a : Addr) (ho : HO) (ks : List D) (us ws : List V), xs = [.ref a] ∧ Rd H a ho ∧ DctO w a ho ks us ws ∧ ∀ p, H p = none → Q (.ref p) (upd H p (.lst us))) := by
  intro pins s σ H xs vs Q I r ⟨w, a, ho, ks, us, ws, e, rd, q, k⟩
  subst e
  obtain ⟨u, rfl, rx⟩ := L2.vals1 r
  cases rx
  obtain ⟨lo, z, o, es, ep, h1, h2, h3, h4, h5, h6⟩ := q.raw I rd
  refine PySem.W.kdl_call (KdlSrc.rawDict (es := es) (ep := ep) lo) (I.ok.hd hc) ⟨o, h1, h2, h3⟩ (by rw [h4]; exact z) fun h' tk acc' c' hk hg hi => ?_
  refine ⟨.ref s.heap.objs.size, _, I.laid (a := s.heap.objs.size) (o := .lst us) (t' := tk) hk (Nat.le_refl _) ⟨z, acc'.toList, c', vals_get (by simp [hi.1, h4]) fun i w' hw => ?_, by simpa using hg⟩, rfl, k _ (I.hok.fresh (Nat.le_refl _))⟩
  obtain ⟨hl, rfl⟩ := hi.2 i w' (by simpa using hw)
  obtain ⟨x, _, g1, _, g2, _⟩ := h6 i hl
  exact ⟨x, g1, g2⟩
theorem dn_keys {p : Pos} (hc : X.calm = true) (hm : X.mg "list" = none) (ha : PE' X e da) (hg : Gl X "list" := by rfl)
    (he : starEach [e] X.env = (false, eval e X.env) :: starEach [] X.env := by rfl) (hpl : (backTo pos (starEach [] X.env)).any (·.1) = false := by rfl) : PN X (.Call (.Name "list" p) [e] [] pos) (nKeys da) :=
  PE.imp (pe_callTy (call_list_dct hc) hg hm (by decide +kernel) (pa_cons ha pa_nil he) (by decide) (by decide) he hpl) fun σ H Q => by
  rintro ⟨W, ρ, S, r, S', R, hd, k⟩
  obtain ⟨⟨d, S1⟩, e1, hd⟩ := bindS hd
  obtain ⟨q, e2, hd⟩ := mapS hd
  cases hd
  refine ⟨W, ρ, S, d, _, R, e1, fun W1 v H1 s1 R1 r1 => ?_⟩
  obtain ⟨a, rfl, ho, us, ws, rd, dq, r2, r3⟩ := R1.base.dct e2 r1
  refine ⟨_, a, ho, q.1, us, ws, rfl, rd, dq, fun p hp => ?_⟩
  obtain ⟨B', s'⟩ := R1.base.alloc (.lst us) hp
  exact k W1 p us _ (s1.trans s') ⟨B', R1.env⟩ ⟨upd_same, r2, (R1.base.free hp).1, (R1.base.free hp).2, s1.back hp⟩
end
end DL


/-! DL42: new dicts -/
namespace DL
open PySem L2 PyProof.Rows

abbrev DND := Env' → Sh → Option ((List D × List D) × Sh)
structure FreshD (W' : Wd) (H H' : Hp) (p : Addr) (ks vs : List D) : Prop where
  at_ : ∃ ho us ws, H' p = some ho ∧ DctO W'.w p ho ks us ws ∧ Reps W' ks us ∧ Reps W' vs ws
  t : W'.T p = none
  m : p ∉ W'.m
  new : H p = none
def liftND (K : Fr) (d : DND) : TE := fun σ H Q => ∃ W ρ S ks vs S', Rel K W ρ S σ H ∧ d ρ S = some ((ks, vs), S') ∧ ∀ W' p H', Stp W W' H H' → Rel K W' ρ S' σ H' → FreshD W' H H' p ks vs → Q (.ref p) H'
abbrev PND (X : Cx) (e : Expr) (d : DND) : Prop := PE X e (liftND X.KW d)
/-- an object becomes known -/
theorem Base.knowO {K : Fr} {W : Wd} {S : Sh} {H : Hp} {p : Addr} {o : HO} (B : Base K W S H) (hp : Stands H p o) (ht : W.T p = none) (hm : p ∉ W.m) :
    Base K { W with T := fun b => if b = p then some o else W.T b } S H ∧ Le W { W with T := fun b => if b = p then some o else W.T b } := by
  have le : Le W { W with T := fun b => if b = p then some o else W.T b } := ⟨fun _ _ h => h, fun a u h => by
    show (if a = p then some o else W.T a) = some u
    rw [if_neg (fun z => by rw [z, ht] at h; cases h)]
    exact h, rfl⟩
  refine ⟨⟨fun a u h => ?_, B.len, fun i ds h => ?_, B.nod, fun a h => ?_, B.sa⟩, le⟩
  · have h' : (if a = p then some o else W.T a) = some u := h
    by_cases e : a = p
    · rw [if_pos e] at h'
      cases h'
      rw [e]
      exact hp
    · rw [if_neg e] at h'
      exact B.fro a u h'
  · obtain ⟨a, vs, h1, h2, h3⟩ := B.sh i ds h
    exact ⟨a, vs, h1, h2, h3.mono le⟩
  · show (if a = p then some o else W.T a) = none
    rw [if_neg (fun z => hm (by rw [← z]; exact h))]
    exact B.apart a h
theorem ownO_mut {o : HO} (h : ownO o) : Mut (some o) := by
  cases o <;> first | exact trivial | exact h.elim
/-- a new dict is locked and known from then on -/
theorem lock_new {X : Cx} {pins : List (Addr × Obj)} {σ : L2.St} {H H1 : Hp} {s : Shared} {W W1 : Wd} {S : Sh} {p : Addr} {ks vs : List D} (I : Inv X pins σ H1 s) (st : Stp W W1 H H1) (B : Base X.KW W1 S H1) (f : FreshD W1 H H1 p ks vs) :
    ∃ H2 W2, Inv X pins σ H2 s ∧ Stp W W2 H H2 ∧ Base X.KW W2 S H2 ∧ Le W1 W2 ∧ Rep W2 (.dct ks vs) (.ref p) := by
  obtain ⟨ho, us, ws, h1, h2, h3, h4⟩ := f.at_
  obtain ⟨od, I2⟩ := I.lock h1 (ownO_mut h2.own)
  have B1 : Base X.KW W1 S (upd H1 p (.frz od ho)) := B.put f.t f.m fun x ys z => by
    rw [h1] at z; cases z
    exact h2.own
  obtain ⟨B2, l2⟩ := B1.knowO (o := .frz od ho) (show Stands _ _ (.frz od ho) from upd_same) f.t f.m
  have ne : ∀ b o, H b = some o → b ≠ p := fun b o h e => by rw [e, f.new] at h; cases h
  refine ⟨_, _, I2, ⟨st.le.trans l2, fun b o h n => ?_, st.new, fun b o h => ?_, fun b o h => ?_⟩, B2, l2, p, od, ho, us, ws, rfl, if_pos rfl, h2, h3.mono l2, h4.mono l2⟩
  · rw [upd_ne (ne b o h)]
    exact st.keep b o h n
  · rw [upd_ne (ne b o h)]
    exact st.ex b o h
  · have h' : (if b = p then some (HO.frz od ho) else W1.T b) = some o := h
    by_cases e : b = p
    · exact .inr (by rw [e]; exact f.new)
    · rw [if_neg e] at h'
      exact st.newT b o h'
def dFzD (d : DND) : DE := fun ρ S => (d ρ S).map fun p => (.dct p.1.1 p.1.2, p.2)
section
variable {X : Cx} {a b c e : Expr} {es : List Expr} {da db dc : DE} {dn : DND} {pos : Pos}
theorem PND.fz (h : PND X e dn) : PE' X e (dFzD dn) := by
  refine ⟨fun pins s σ H Q I q => ?_⟩
  obtain ⟨W, ρ, S, r, S', R, hd, k⟩ := q
  obtain ⟨⟨⟨ks, vs⟩, S1⟩, e1, hd⟩ := mapS hd
  cases hd
  refine thn (h.run pins s σ H (fun v H1 => ∃ W1 p, v = .ref p ∧ Stp W W1 H H1 ∧ Rel X.KW W1 ρ S1 σ H1 ∧ FreshD W1 H H1 p ks vs) I ⟨W, ρ, S, ks, vs, S1, R, e1, fun W1 p H1 s1 R1 f => ⟨W1, p, rfl, s1, R1, f⟩⟩) fun u s1 ⟨v, H1, I1, rv, W1, p, ev, st, R1, f⟩ => ?_
  subst ev
  obtain ⟨H2, W2, I2, st2, B2, l2, r2⟩ := lock_new I1 st R1.base f
  exact ⟨.ref p, H2, I2, rv, k W2 _ H2 st2 ⟨B2, R1.env.mono l2⟩ r2⟩
/-! ### {} -/
def ndNil : DND := fun _ S => some (([], []), S)
theorem dnd_nil : PND X (.Dict [] [] pos) ndNil := PE.imp pe_dnewK fun σ H Q => by
  rintro ⟨W, ρ, S, ks, vs, S', R, hd, k⟩ p hp
  cases hd
  obtain ⟨B', s'⟩ := R.base.alloc (.dK []) hp
  exact k W p _ s' ⟨B', R.env⟩ ⟨⟨_, [], [], upd_same, .inl ⟨[], rfl, rfl, rfl, rfl⟩, rfl, rfl⟩, (R.base.free hp).1, (R.base.free hp).2, hp⟩
/-! ### dict(d), its keys ints and texts -/
def leafB (ks : List D) : Bool := ks.all fun k => famD k == some true
def ndCopy (dl : DE) : DND := fun ρ S => (dl ρ S).bind fun p => (dctD p.1).bind fun q => if leafB q.1 = true then some (q, p.2) else none
theorem call_dict_leaf : CallR X (.type "dict") (fun xs H Q => ∃ (a : Addr) (kvs : List (Key × V)), xs = [.ref a] ∧ Rd H a (.dK kvs) ∧ ∀ p, H p = none → Q (.ref p) (upd H p (.dK kvs))) := by
  intro pins s σ H xs vs Q I r ⟨a, kvs, e, rd, k⟩
  subst e
  obtain ⟨u, rfl, rx⟩ := L2.vals1 r
  cases rx
  exact d_copyOf I rd fun p s' hp I' => ⟨.ref p, _, I', rfl, k p hp⟩
theorem leaf_of {w : World} {a : Addr} {ho : HO} {ks : List D} {us ws : List V} {W : Wd} (q : DctO w a ho ks us ws) (r : Reps W ks us) (h : leafB ks = true) : ∃ kvs : List (Key × V), ho = .dK kvs ∧ ks = kvs.map (fun p => keyD p.1) ∧ us = kvs.map (fun p => kV p.1) ∧ ws = kvs.map (·.2) := by
  rcases q with q | ⟨xs, ne, rfl, e, rfl, rfl⟩
  · exact q
  · exfalso
    cases xs with
    | nil => exact ne rfl
    | cons x xs =>
      cases ks with
      | nil => simp at e
      | cons j ks =>
        obtain ⟨k1, rfl⟩ := fam_leaf (all_fam (ks := j :: ks) h (d := j) (by simp))
        obtain ⟨v, r', h1, h2, _⟩ := r
        rw [List.map_cons] at h1
        injection h1 with h1 _
        have : v = kV k1 := by cases k1 <;> exact h2
        rw [this] at h1
        cases k1 <;> cases h1
theorem dnd_copy {p : Pos} (hm : X.mg "dict" = none) (ha : PE' X e da) (hg : Gl X "dict" := by rfl)
    (he : starEach [e] X.env = (false, eval e X.env) :: starEach [] X.env := by rfl) (hpl : (backTo pos (starEach [] X.env)).any (·.1) = false := by rfl) : PND X (.Call (.Name "dict" p) [e] [] pos) (ndCopy da) :=
  PE.imp (pe_callTy call_dict_leaf hg hm (by decide +kernel) (pa_cons ha pa_nil he) (by decide) (by decide) he hpl) fun σ H Q => by
  rintro ⟨W, ρ, S, ks, vs, S', R, hd, k⟩
  obtain ⟨⟨d, S1⟩, e1, hd⟩ := bindS hd
  obtain ⟨q, e2, hd⟩ := bindS hd
  simp only [Option.ite_none_right_eq_some] at hd
  obtain ⟨hl, hd⟩ := hd
  cases hd
  refine ⟨W, ρ, S, d, _, R, e1, fun W1 v H1 s1 R1 r1 => ?_⟩
  obtain ⟨a, rfl, ho, us, ws, rd, dq, r2, r3⟩ := R1.base.dct e2 r1
  obtain ⟨kvs, rfl, e3, e4, e5⟩ := leaf_of dq r2 hl
  refine ⟨a, kvs, rfl, rd, fun p hp => ?_⟩
  obtain ⟨B', s'⟩ := R1.base.alloc (.dK kvs) hp
  exact k W1 p _ (s1.trans s') ⟨B', R1.env⟩ ⟨⟨_, us, ws, upd_same, .inl ⟨kvs, rfl, e3, e4, e5⟩, r2, r3⟩, (R1.base.free hp).1, (R1.base.free hp).2, s1.back hp⟩
end

/-! ### a new dict in a slot of its own -/
section
variable {X : Cx} {W0 W W1 : Wd} {ρ : Env2} {S S1 : Sh} {σ : L2.St} {H H1 : Hp} {keep : List Nat} {dn : DND} {e : Expr} {pos : Pos}
theorem evND {d : DND} {ks vs : List D} {Q : VK} (R : RelS X W0 W ρ S σ H) (e : d (fzE keep 0 ρ) S = some ((ks, vs), S1))
    (k : ∀ W1 p H1, Le W W1 → RelS X W0 W1 (frz keep 0 ρ) S1 σ H1 → FreshD W1 H H1 p ks vs → Away X W1 (frz keep 0 ρ) σ H1 (fun b => b = p) → Q (.ref p) H1) : liftND X.KW d σ H Q :=
  ⟨_, _, S, ks, vs, S1, wF_rel keep R, e, fun W1 p H1 s R1 f => k W1 p H1 ((wF_le keep R).trans s.le) ((wF_relS keep R).step s R1.base) f ((wF_relS keep R).away s fun a e => by rw [e]; exact f.new)⟩
def sSetD (keep : List Nat) (i : Nat) (d : DND) : DS := fun ρ S => (d (fzE keep 0 ρ) S).map fun p => .nx ((frz keep 0 ρ).set i (.owx (.d p.1.1 p.1.2))) p.2
theorem new_h0 {p : Addr} (R : RelS X W0 W ρ S σ H) (h : H p = none) : X.H_0 p = none := by
  cases q : X.H_0 p with
  | none => rfl
  | some o =>
    obtain ⟨o', z⟩ := R.ent.ex p o q
    rw [h] at z; cases z
theorem setD_of [XW] (keep : List Nat) {i : Nat} {st : Stmt} (h : PS X st (tAsg (liftND X.KW dn) (gName i))) : PS' X st (sSetD keep i dn) := PS.imp h fun D σ H => by
  rintro ⟨W0, W, ρ, S, o, R, h, k⟩
  obtain ⟨⟨⟨ks, vs⟩, S1⟩, e1, h⟩ := mapS h
  cases h
  refine evND R e1 fun W1 p H1 l R1 f hn => ?_
  obtain ⟨ho, us, ws, h1, h2, h3, h4⟩ := f.at_
  exact k W1 _ H1 l (R1.setNew i (s := .owx (.d ks vs)) (f := fun b => b = p) (fun _ z => nomatch z) ⟨.ref p, rfl, p, ho, us, ws, rfl, h1, h2, h3, h4, rfl⟩
    (fun b e => by subst e; exact ⟨f.t, f.m, new_h0 R f.new, ho, h1, h2.own⟩) hn)
theorem dps_setD [XW] (keep : List Nat) {i : Nat} {x : Str} {pos' : Pos} (hN : X.N.Nodup) (hi : X.N[i]? = some x) (hx : Loc X.env.scope x) (he : PND X e dn) (hs : swapsWith e (some (.Name x pos')) pos.line X.env = pure false := by rfl) (hf : X.fn x = true ∨ X.env.scope.names.lookup x = some .local := by first | exact .inl rfl | exact .inr rfl | assumption) :
    PS' X (.Assign [.Name x pos'] e pos) (sSetD keep i dn) := setD_of keep (ps_set hN hi hx he hs hf)
/-- a dict of own lists -/
def sSetG (i : Nat) (d : DND) : DS := fun ρ S => (d (fzE [] 0 ρ) S).bind fun p => if p.1.1.isEmpty = true then some (.nx (ρ.set i (.owx (.g [] []))) p.2) else none
theorem setG_of [XW] {i : Nat} {st : Stmt} (h : PS X st (tAsg (liftND X.KW dn) (gName i))) : PS' X st (sSetG i dn) := PS.imp h fun D σ H => by
  rintro ⟨W0, W, ρ, S, o, R, h, k⟩
  obtain ⟨⟨⟨ks, vs⟩, S1⟩, e1, h⟩ := bindS h
  simp only [Option.ite_none_right_eq_some] at h
  obtain ⟨he, h⟩ := h
  cases h
  refine evND (keep := []) R e1 fun W1 p H1 l R1 f hn => ?_
  rw [frz_nil] at R1 hn
  obtain ⟨ho, us, ws, h1, h2, h3, h4⟩ := f.at_
  have e0 : ks = [] := by simpa using he
  subst e0
  have e1 : us = [] := by have := h3.length; simpa using this
  subst e1
  have e2 : ws = [] := by
    rcases h2 with ⟨kvs, _, q, _, q2⟩ | ⟨xs, _, _, q, _, q2⟩
    · have : kvs = [] := by simpa using q.symm
      rw [q2, this]; rfl
    · have : xs = [] := by simpa using q.symm
      rw [q2, this]; rfl
  subst e2
  exact k W1 _ H1 l (R1.setNew i (s := .owx (.g [] [])) (f := fun b => b = p) (fun _ z => nomatch z) ⟨.ref p, rfl, p, ho, [], [], rfl, h1, h2, h3, ⟨List.nodup_nil, by simp, rfl, fun i ds q => by simp at q⟩, rfl⟩
    (fun b e => by subst e; exact ⟨f.t, f.m, new_h0 R f.new, ho, h1, h2.own⟩) hn)
theorem dps_setG [XW] {i : Nat} {x : Str} {pos' : Pos} (hN : X.N.Nodup) (hi : X.N[i]? = some x) (hx : Loc X.env.scope x) (he : PND X e dn) (hs : swapsWith e (some (.Name x pos')) pos.line X.env = pure false := by rfl) (hf : X.fn x = true ∨ X.env.scope.names.lookup x = some .local := by first | exact .inl rfl | exact .inr rfl | assumption) :
    PS' X (.Assign [.Name x pos'] e pos) (sSetG i dn) := setG_of (ps_set hN hi hx he hs hf)
end
end DL


/-! DL43: d[k] = v, d a dict of one's own -/
namespace DL
open PySem L2 PyProof.Rows

/-! ### keys that are ints and texts -/
theorem putK_cons {κ : Type} [DecidableEq κ] (p : κ × V) (kvs : List (κ × V)) (k : κ) (x : V) (hn : p.1 ∉ kvs.map (·.1)) : putK (p :: kvs) k x = if p.1 = k then (p.1, x) :: kvs else p :: putK kvs k x := by
  by_cases c : p.1 = k
  · subst c
    unfold putK
    rw [if_pos rfl, if_pos (by simp)]
    rw [List.map_cons, if_pos rfl]
    congr 1
    refine (List.map_congr_left fun q hq => ?_).trans (List.map_id _)
    rw [if_neg (fun e => hn (by rw [← e]; exact List.mem_map_of_mem hq))]
    rfl
  · rw [if_neg c]
    unfold putK
    rw [List.any_cons]
    simp only [c, decide_false, Bool.false_or]
    split
    · rw [List.map_cons, if_neg c]
    · rfl
theorem leaf_put {W : Wd} (k : Key) {v : D} {x : V} (rv : Rep W v x) : ∀ (kvs : List (Key × V)) (vs : List D), (kvs.map (·.1)).Nodup → Reps W vs (kvs.map (·.2)) →
    (dput (kvs.map fun p => keyD p.1) vs (keyD k) v).1 = (putK kvs k x).map (fun p => keyD p.1) ∧ Reps W (dput (kvs.map fun p => keyD p.1) vs (keyD k) v).2 ((putK kvs k x).map (·.2))
  | [], vs, _, r => by
    have : vs = [] := by have := r.length; simpa using this.symm
    subst this
    refine ⟨rfl, x, [], rfl, rv, rfl⟩
  | p :: kvs, [], _, r => by have := r.length; simp at this
  | p :: kvs, d :: vs, hn, r => by
    rw [List.map_cons, List.nodup_cons] at hn
    obtain ⟨y, r', h1, h2, h3⟩ := r
    rw [List.map_cons] at h1
    injection h1 with h1 h1'
    subst h1 h1'
    rw [putK_cons p kvs k x hn.1, List.map_cons, dput, keyD_eq]
    by_cases c : p.1 = k
    · simp only [c, decide_true, if_true]
      exact ⟨by simp, x, _, rfl, rv, h3⟩
    · simp only [c, decide_false, if_false, Bool.false_eq_true]
      obtain ⟨g1, g2⟩ := leaf_put k rv kvs vs hn.2 h3
      exact ⟨by rw [g1, List.map_cons], _, _, rfl, h2, g2⟩
theorem leaf_keys {W : Wd} : ∀ kvs : List (Key × V), Reps W (kvs.map fun p => keyD p.1) (kvs.map fun p => kV p.1)
  | [] => rfl
  | p :: kvs => ⟨_, _, rfl, by show Rep W (keyD p.1) (kV p.1); cases p.1 <;> exact rfl, leaf_keys kvs⟩
/-! ### keys that are tuples -/
def putN (k : NestedKey) (b : Addr) (x : V) : List (NestedKey × Addr × V) → List (NestedKey × Addr × V)
  | [] => [(k, b, x)]
  | p :: xs => if p.1 = k then (p.1, p.2.1, x) :: xs else p :: putN k b x xs
theorem putN_ne (k : NestedKey) (b : Addr) (x : V) (xs : List (NestedKey × Addr × V)) : putN k b x xs ≠ [] := by
  cases xs with
  | nil => simp [putN]
  | cons p xs =>
    rw [putN]
    split <;> simp
theorem putN_len (k : NestedKey) (b : Addr) (x : V) : ∀ xs : List (NestedKey × Addr × V), (putN k b x xs).length ≤ xs.length + 1
  | [] => by simp [putN]
  | p :: xs => by
    rw [putN]
    have := putN_len k b x xs
    split <;> simp <;> omega
theorem stored_cons (p : NestedKey × Addr × Value) (ys : List (NestedKey × Addr × Value)) (k : NestedKey) (b : Addr) (r : Value) (hn : p.1 ∉ ys.map (·.1)) : storedH (p :: ys) k b r = if p.1 = k then (p.1, p.2.1, r) :: ys else p :: storedH ys k b r := by
  unfold storedH
  rw [at_cons]
  by_cases c : p.1 = k
  · subst c
    simp only [if_true, Option.isSome_some]
    rw [List.map_cons]
    congr 1
    · simp [putAt]
    · refine (List.map_congr_left fun q hq => ?_).trans (List.map_id _)
      unfold putAt
      rw [if_neg (fun e => hn (by rw [← e]; exact List.mem_map_of_mem hq))]
      rfl
  · simp only [c, if_false]
    split
    · rw [List.map_cons, putAt, if_neg c]
    · rfl
theorem tup_put {k : NestedKey} {b : Addr} {x : V} {r : Value} (hx : RelV x r) : ∀ {xs : List (NestedKey × Addr × V)} {ys : List (NestedKey × Addr × Value)}, Paired NdR xs ys → (ys.map (·.1)).Nodup → Paired NdR (putN k b x xs) (storedH ys k b r)
  | [], _, .nil, _ => .cons ⟨rfl, rfl, hx⟩ .nil
  | p :: xs, _, @Paired.cons _ _ _ _ q _ ys ⟨e1, e2, e3⟩ t, hn => by
    rw [List.map_cons, List.nodup_cons] at hn
    rw [stored_cons q ys k b r hn.1, putN, ← e1]
    by_cases c : p.1 = k
    · rw [if_pos c, if_pos c]
      exact .cons ⟨rfl, e2, hx⟩ t
    · rw [if_neg c, if_neg c]
      exact .cons ⟨e1, e2, e3⟩ (tup_put hx t hn.2)
theorem tup_dput {W : Wd} {kd : D} {k : NestedKey} (hk : nkD kd = some k) {b : Addr} (rk : Rep W kd (.ref b)) {v : D} {x : V} (rv : Rep W v x) : ∀ {xs : List (NestedKey × Addr × V)} {ks vs : List D}, ks.map nkD = xs.map (fun x => some x.1) → Reps W ks (xs.map fun x => V.ref x.2.1) → Reps W vs (xs.map (·.2.2)) →
    (dput ks vs kd v).1.map nkD = (putN k b x xs).map (fun x => some x.1) ∧ Reps W (dput ks vs kd v).1 ((putN k b x xs).map fun x => V.ref x.2.1) ∧ Reps W (dput ks vs kd v).2 ((putN k b x xs).map (·.2.2))
  | [], ks, vs, e, r1, r2 => by
    have : ks = [] := by simpa using e
    subst this
    have : vs = [] := by have := r2.length; simpa using this.symm
    subst this
    exact ⟨by simp [dput, putN, hk], ⟨_, _, rfl, rk, rfl⟩, ⟨_, _, rfl, rv, rfl⟩⟩
  | p :: xs, [], _, e, _, _ => by simp at e
  | p :: xs, j :: ks, [], _, _, r2 => by have := r2.length; simp at this
  | p :: xs, j :: ks, d :: vs, e, r1, r2 => by
    rw [List.map_cons, List.map_cons] at e
    injection e with e4 e5
    obtain ⟨y, r', h1, h2, h3⟩ := r2
    rw [List.map_cons] at h1
    injection h1 with h1 h1'
    subst h1 h1'
    obtain ⟨y, r', g1, g2, g3⟩ := r1
    rw [List.map_cons] at g1
    injection g1 with g1 g1'
    subst g1 g1'
    rw [dput, nk_eq j kd p.1 k e4 hk, putN]
    by_cases c : p.1 = k
    · rw [if_pos c]
      simp only [c, decide_true, if_true]
      exact ⟨by simp [e4, e5, c], ⟨_, _, rfl, g2, g3⟩, ⟨_, _, rfl, rv, h3⟩⟩
    · rw [if_neg c]
      simp only [c, decide_false, if_false, Bool.false_eq_true]
      obtain ⟨f1, f2, f3⟩ := tup_dput hk rk rv e5 g3 h3
      exact ⟨by simp [e4, f1], ⟨_, _, rfl, g2, f2⟩, ⟨_, _, rfl, h2, f3⟩⟩
section
variable {X : Cx} {W : Wd} {S : Sh} {H : Hp} {pins : List (Addr × Obj)} {σ : L2.St} {s : Shared}
/-- the entries of a dict whose keys are tuples (an empty one is such a dict, too) -/
theorem DctO.tups (I : Inv X pins σ H s) (B : Base X.KW W S H) {a : Addr} {ho : HO} {ks : List D} {us ws : List V} {k : D} (rd : Rd H a ho) (q : DctO W.w a ho ks us ws) (r1 : Reps W ks us) (fit : keyFit ks k = true) (hf : famD k = some false) :
    ∃ (xs : List (NestedKey × Addr × V)) (ys : List (NestedKey × Addr × Value)), ks.map nkD = xs.map (fun x => some x.1) ∧ us = xs.map (fun x => V.ref x.2.1) ∧ ws = xs.map (·.2.2) ∧ Paired NdR xs ys ∧ s.heap.DictOfH (nestedKind X.prog X.w) a ys ∧ ys.length ≤ sizeLine ∧ (a == sysModules) = false := by
  have hw : W.w = X.w := B.sa.1
  unfold keyFit at fit
  rw [hf] at fit
  rcases q with ⟨kvs, rfl, rfl, rfl, rfl⟩ | ⟨xs, ne, rfl, e, rfl, rfl⟩
  · obtain ⟨z, hd, vs', rel, dd⟩ := dk_rd I.hok rd
    have e0 : kvs = [] := by
      cases kvs with
      | nil => rfl
      | cons p kvs =>
        have := all_fam fit (d := keyD p.1) (by simp)
        rw [fam_keyD] at this; cases this
    subst e0
    cases rel
    obtain ⟨o, es, ep, h1, h2, h3, _, h5, _⟩ := dd
    have ee : es.toList = [] := by
      generalize es.toList = l at h5
      cases h5; rfl
    exact ⟨[], [], rfl, rfl, rfl, .nil, ⟨o, es, ep, h1, h2, h3, by rw [ee]; rfl, fun x hx => by simp at hx, List.nodup_nil⟩, by simp, hd⟩
  · obtain ⟨z, hd, ys, pr, o, es, ep, h1, h2, h3, h4, h5⟩ := show NdAt W.w a xs s.heap from (rd.ok I.hok).1
    refine ⟨xs, ys, e, rfl, rfl, pr, ⟨o, es, ep, h1, h2, h3, by rw [h4, hw]; rfl, fun x hx => ?_, h5⟩, by rw [← Paired.length pr]; exact z, hd⟩
    obtain ⟨i, hi⟩ := List.getElem?_of_mem hx
    obtain ⟨p, hp, e1, e2, _⟩ := paired_back pr hi
    have lk : ks.length = xs.length := by have := congrArg List.length e; simpa using this
    have il : i < xs.length := (List.getElem?_eq_some_iff.mp hp).1
    obtain ⟨j, hj⟩ : ∃ j, ks[i]? = some j := ⟨ks[i], List.getElem?_eq_getElem (by omega)⟩
    obtain ⟨v, hv, rv⟩ := r1.get hj
    rw [List.getElem?_map, hp] at hv
    cases hv
    have en : nkD j = some p.1 := by
      have := congrArg (fun l => l[i]?) e
      simp only [List.getElem?_map, hj, hp, Option.map_some] at this
      exact Option.some.inj this
    obtain ⟨ds', k', rfl, hk', hdep'⟩ := fam_tup (all_fam fit (List.mem_of_getElem? hj))
    rw [hk'] at en; cases en
    have := nk_is I B _ _ (.ref p.2.1) p.1 hk' rv rfl
    rw [← e1, ← e2]
    exact ⟨this, hdep'⟩
theorem nd_ok {a : Addr} {xs : List (NestedKey × Addr × V)} {ys : List (NestedKey × Addr × Value)} {h : Heap} {H' : Hp} (dd : h.DictOfH (nestedKind X.prog X.w) a ys) (pr : Paired NdR xs ys) (z : xs.length ≤ sizeLine) (hd : (a == sysModules) = false) (w : World) (hw : w = X.w) : ObjOk X.prog X.w H' h a (ndO w a xs) := by
  subst hw
  obtain ⟨o, es, ep, h1, h2, h3, h4, _, h5⟩ := dd
  refine ⟨⟨z, hd, ys, pr, o, es, ep, h1, h2, h3, h4, h5⟩, ⟨o, h1⟩, fun g1 g2 hg k => ?_⟩
  obtain ⟨z, hd, ys, pr, o, es, ep, h1, h2⟩ := hg
  exact ⟨z, hd, ys, pr, o, es, ep, k o h1, h2⟩
/-- what a store makes of a dict: its new object -/
def Stored (W : Wd) (H : Hp) (a : Addr) (ks vs : List D) (ho' : HO) : Prop := ∃ us ws, DctO W.w a ho' ks us ws ∧ Reps W ks us ∧ Reps W vs ws
theorem dctSet {a : Addr} {ks vs : List D} {k v : D} {y x : V} {u r : Value} {A : Around} {E : Value → Shared → Prop} {Q : Unit → Shared → Prop} {ho : HO} {us ws : List V} (hu : A.units + 64 < cLine) (I : Inv X pins σ H s) (B : Base X.KW W S H) (ha : H a = some ho) (q : DctO W.w a ho ks us ws) (r1 : Reps W ks us) (r2 : Reps W vs ws)
    (fit : keyFit ks k = true) (hl : ks.length < sizeLine) (rk : Rep W k y) (ry : RelV y u) (rv : Rep W v x) (rx : RelV x r) (h : ∀ ho' s', Stored W H a (dput ks vs k v).1 (dput ks vs k v).2 ho' → ownO ho' → Inv X pins σ (upd H a ho') s' → Q () s') :
    wpAny (model X.prog X.w) A (setItem (.ref a) u r) Q E s := by
  have hw : W.w = X.w := B.sa.1
  cases hf : famD k with
  | none => unfold keyFit at fit; rw [hf] at fit; cases fit
  | some fb =>
    cases fb with
    | true =>
      obtain ⟨k0, rfl⟩ := fam_leaf hf
      have hy : y = kV k0 := by cases k0 <;> exact rk
      subst hy
      have lf : leafB ks = true := by unfold keyFit at fit; rw [hf] at fit; exact fit
      obtain ⟨kvs, rfl, e3, e4, e5⟩ := leaf_of q r1 lf
      subst e3 e4 e5
      obtain ⟨z, hd, vs', rel, dd⟩ := dk_rd I.hok (.inl ha)
      have hn : (kvs.map (·.1)).Nodup := by
        obtain ⟨_, _, _, _, _, _, _, _, hn⟩ := dd
        rw [rel.keys]; exact hn
      obtain ⟨g1, g2⟩ := leaf_put k0 rv kvs vs hn r2
      refine d_setItem (by omega) I (DPut.k (v := x) ha (by simpa using hl)) ry rx fun s' I' => h _ s' ⟨_, _, .inl ⟨_, rfl, g1, rfl, rfl⟩, by rw [g1]; exact leaf_keys _, g2⟩ trivial I'
    | false =>
      obtain ⟨ds, k0, rfl, hk, hdep⟩ := fam_tup hf
      have hn := nk_is I B _ y u k0 hk rk ry
      obtain ⟨b, vs1, us1, rfl, rfl, _⟩ := B.isTup I rk ry
      obtain ⟨xs, ys, e, rfl, rfl, pr, dd, z, hd⟩ := q.tups I B (.inl ha) r1 fit hf
      have hl' : xs.length < sizeLine := by have := congrArg List.length e; simp at this; omega
      obtain ⟨f1, f2, f3⟩ := tup_dput hk rk rv e r1 r2
      have hnd : (ys.map (·.1)).Nodup := by obtain ⟨_, _, _, _, _, _, _, _, hn⟩ := dd; exact hn
      refine wpAny_setItem_heap (knd := nestedKind X.prog X.w) (nroom hu) ⟨hn, hdep⟩ dd (fun h' dd' hs => ?_) z
      have he : ∃ q, h'.get? a = some q := let ⟨q, _, _, hq, _⟩ := dd'; ⟨q, hq⟩
      refine h (ndO W.w a (putN k0 b x xs)) _ ⟨_, _, .inr ⟨_, putN_ne _ _ _ _, rfl, f1, rfl, rfl⟩, f2, f3⟩ trivial (d_write I (by rw [ha]; exact ownO_mut q.own) hs he (nd_ok dd' (tup_put rx pr hnd) ?_ hd _ hw))
      have := putN_len k0 b x xs
      omega
end
/-! ### the statement -/
def putDO (i : Nat) (ρ : Env2) (k v : D) (S : Sh) : Option Out := match ρ[i]? with
  | some (.owx (.d ks vs)) => if keyFit ks k = true ∧ ks.length < sizeLine then some (.nx (ρ.set i (.owx (.d (dput ks vs k v).1 (dput ks vs k v).2))) S) else none
  | _ => none
def sPutD (keep keep2 : List Nat) (i : Nat) (dv dk : DE) : DS := fun ρ S => (dv (fzE keep 0 ρ) S).bind fun p => if chk keep p.2 && (pureD p.1 || keep.isEmpty) then (dk (fzE keep2 0 ρ) p.2).bind fun q => if chk keep2 q.2 && (pureD q.1 || keep2.isEmpty) then putDO i ρ q.1 p.1 q.2 else none else none
section
variable {X : Cx} {W0 W W1 : Wd} {ρ : Env2} {S S1 : Sh} {σ : L2.St} {H H1 : Hp} {keep : List Nat} {e o ix : Expr} {pos : Pos} {da db : DE}
theorem putDO_inv {i : Nat} {k v : D} {out : Out} (h : putDO i ρ k v S = some out) : ∃ ks vs, ρ[i]? = some (.owx (.d ks vs)) ∧ keyFit ks k = true ∧ ks.length < sizeLine ∧ out = .nx (ρ.set i (.owx (.d (dput ks vs k v).1 (dput ks vs k v).2))) S := by
  unfold putDO at h
  split at h
  · rename_i ks vs q
    simp only [Option.ite_none_right_eq_some, Option.some.injEq] at h
    exact ⟨ks, vs, q, h.1.1, h.1.2, h.2.symm⟩
  · cases h
/-- an own dict is changed -/
theorem RelS.updD {F : Nat → Addr → Prop} (R : RelS X W0 W ρ S σ H) (O : Own W H X.H_0 F ρ σ) {i : Nat} {ks vs : List D} {a : Addr} {ho : HO} {us ws : List V} (ha : σ[i]? = some (some (V.ref a))) (hF : F i a) (q : DctO W.w a ho ks us ws) (r1 : Reps W ks us) (r2 : Reps W vs ws) :
    RelS X W0 W (ρ.set i (.owx (.d ks vs))) S σ (L2.upd H a ho) := by
  refine R.mut O i (s := .owx (.d ks vs)) (f := fun b => b = a) (fun _ z => nomatch z) (fun b h => ?_) (fun b o h => ?_) ⟨_, ha, a, ho, us, ws, rfl, upd_same, q, r1, r2, rfl⟩ fun b e => by subst e; exact ⟨.inl hF, _, upd_same, q.own⟩
  · by_cases e : b = a
    · subst e; exact .inl hF
    · exact absurd (upd_ne e) h
  · by_cases e : b = a
    · exact ⟨_, by rw [e]; exact upd_same⟩
    · exact ⟨o, by rw [upd_ne e]; exact h⟩
theorem dps_putD [XW] (keep keep2 : List Nat) {i : Nat} {pos' : Pos} (hu : X.A.units + 64 < cLine) (he : PE' X e da) (ho : PE X o (tVar i)) (hi : PE' X ix db) (hs : swapsWith e (some (.Subscript o ix pos')) pos.line X.env = pure false := by rfl) :
    PS' X (.Assign [.Subscript o ix pos'] e pos) (sPutD keep keep2 i da db) := by
  refine ⟨fun pins s σ H D I h => ?_⟩
  obtain ⟨W0, W, ρ, S, o', R, h, k⟩ := h
  obtain ⟨⟨r, S1⟩, e1, h⟩ := bindS h
  simp only [Option.ite_none_right_eq_some, Bool.and_eq_true, Bool.or_eq_true] at h
  obtain ⟨⟨hS, hp⟩, h⟩ := h
  obtain ⟨⟨x, S2⟩, e2, h⟩ := bindS h
  simp only [Option.ite_none_right_eq_some, Bool.and_eq_true, Bool.or_eq_true] at h
  obtain ⟨⟨hS2, hp2⟩, h⟩ := h
  obtain ⟨ks, vs, q1, q2, q3, rfl⟩ := putDO_inv h
  refine wpAny_Assign_Subscript (thn (he.run pins s σ H (fun v H1 => ∃ W1, Le W W1 ∧ RelS X W0 W1 ρ S1 σ H1 ∧ Rep W1 r v) I (evP R e1 hS fun W1 v H1 l R1 r1 => ⟨W1, l, R1, r1 hp⟩)) fun rv s1 ⟨v, H1, I1, rr, W1, l1, R1, r1⟩ => ?_) hs
  obtain ⟨F, O⟩ := R1.ownF
  obtain ⟨_, g1, a, ho', us, ws, rfl, g2, g3, g4, g5, g6⟩ := O.at_ i _ q1
  refine thn (ho.run pins s1 σ H1 (fun v H2 => v = .ref a ∧ H2 = H1) I1 ⟨_, g1, rfl, rfl⟩) fun uo s2 ⟨_, H2, I2, ro, eo, eh⟩ => ?_
  subst eo eh
  obtain rfl : uo = Value.ref a := ro
  refine thn (hi.run pins s2 σ H2 (fun v H3 => ∃ W3, Le W1 W3 ∧ RelS X W0 W3 ρ S2 σ H3 ∧ Rep W3 x v) I2 (evP R1 e2 hS2 fun W3 v H3 l R3 r3 => ⟨W3, l, R3, r3 hp2⟩)) fun iv s3 ⟨vk, H3, I3, rk, W3, l3, R3, r3⟩ => ?_
  obtain ⟨F3, O3⟩ := R3.ownF
  obtain ⟨_, g1', a', ho3, us3, ws3, rfl, g2', g3', g4', g5', g6'⟩ := O3.at_ i _ q1
  rw [g1] at g1'
  cases g1'
  refine dctSet hu I3 R3.base g2' g3' g4' g5' q2 q3 r3 rk (r1.mono l3) rr fun ho4 s4 st _ I4 => ?_
  obtain ⟨us4, ws4, d1, d2, d3⟩ := st
  exact ⟨σ, _, I4, k W3 σ _ (l1.trans l3) (R3.updD O3 g1 g6' d1 d2 d3)⟩
end
end DL


/-! DL44: a dict of one's own becomes a value; tests that store (setdefault) -/
namespace DL
open PySem L2 PyProof.Rows

def lk : Sl → Sl
  | .owx (.d ks vs) => .val (.dct ks vs)
  | .owx (.g ks vss) => .val (.dcu ks (vss.map .lst))
  | .owx (.l dss) => .val (.lst (dss.map .lst))
  | .no => .no
  | .val d => .val d
  | .own ds => .own ds
def lkS : Nat → Env2 → Env2
  | _, [] => []
  | 0, s :: r => lk s :: r
  | n + 1, s :: r => s :: lkS n r
theorem lkS_set : ∀ (i : Nat) (ρ : Env2) (s : Sl), ρ[i]? = some s → lkS i ρ = ρ.set i (lk s)
  | _, [], s, h => by simp at h
  | 0, x :: r, s, h => by simp at h; subst h; rfl
  | n + 1, x :: r, s, h => by
    rw [lkS, List.set_cons_succ, lkS_set n r s (by simpa using h)]
theorem lkS_none : ∀ (i : Nat) (ρ : Env2), ρ[i]? = none → lkS i ρ = ρ
  | _, [], _ => by simp [lkS]
  | 0, x :: r, h => by simp at h
  | n + 1, x :: r, h => by rw [lkS, lkS_none n r (by simpa using h)]
/-- first the dict at slot i becomes a value -/
def sLk (i : Nat) (d : DS) : DS := fun ρ S => d (lkS i ρ) S
section
variable {X : Cx} {W0 W W1 : Wd} {ρ : Env2} {S S1 : Sh} {σ : L2.St} {H H1 : Hp} {pins : List (Addr × Obj)} {s : Shared}
theorem frz_one : ∀ (ρ : Env2) (n i : Nat) (s : Sl), ρ[i]? = some s → frz [n + i] n ρ = ρ.set i (frz1 true s)
  | [], _, _, _, h => by simp at h
  | x :: r, n, 0, s, h => by
    simp at h; subst h
    rw [frz, List.set_cons_zero, Nat.add_zero]
    have low : ∀ (r : Env2) (m : Nat), n < m → frz [n] m r = r := by
      intro r
      induction r with
      | nil => intro m _; rfl
      | cons y r ih =>
        intro m hm
        rw [frz, ih (m + 1) (by omega)]
        have : ([n] : List Nat).contains m = false := by simp; omega
        rw [this]
        cases y <;> rfl
    rw [low r (n + 1) (by omega)]
    simp
  | x :: r, n, i + 1, s, h => by
    rw [frz, List.set_cons_succ, show n + (i + 1) = (n + 1) + i by omega, frz_one r (n + 1) i s (by simpa using h)]
    have : ([n + 1 + i] : List Nat).contains n = false := by simp; omega
    rw [this]
    cases x <;> rfl
theorem lk_run (I : Inv X pins σ H s) (R : RelS X W0 W ρ S σ H) (i : Nat) : ∃ H' W', Inv X pins σ H' s ∧ Le W W' ∧ RelS X W0 W' (lkS i ρ) S σ H' := by
  cases q : ρ[i]? with
  | none => exact ⟨H, W, I, .refl _, by rw [lkS_none i ρ q]; exact R⟩
  | some sl =>
    rw [lkS_set i ρ sl q]
    have idem : ∀ (r : Env2), r[i]? = some sl → r.set i sl = r := fun r h => by
      obtain ⟨h1, h2⟩ := List.getElem?_eq_some_iff.mp h
      rw [← h2, List.set_getElem_self]
    cases sl with
    | no => exact ⟨H, W, I, .refl _, by rw [lk, idem ρ q]; exact R⟩
    | val d => exact ⟨H, W, I, .refl _, by rw [lk, idem ρ q]; exact R⟩
    | own ds => exact ⟨H, W, I, .refl _, by rw [lk, idem ρ q]; exact R⟩
    | owx x =>
      cases x with
      | g ks vss =>
        have z := wF_relS [i] R
        have e := frz_one ρ 0 i _ q
        rw [Nat.zero_add] at e
        rw [e] at z
        exact ⟨H, _, I, wF_le [i] R, z⟩
      | l dss =>
        have z := wF_relS [i] R
        have e := frz_one ρ 0 i _ q
        rw [Nat.zero_add] at e
        rw [e] at z
        exact ⟨H, _, I, wF_le [i] R, z⟩
      | d ks vs =>
        obtain ⟨F, O⟩ := R.ownF
        obtain ⟨_, g1, a, ho, us, ws, rfl, g2, g3, g4, g5, g6⟩ := O.at_ i _ q
        obtain ⟨l1, l2, l3, _⟩ := O.low i a g6
        obtain ⟨od, I2⟩ := I.lock g2 (ownO_mut g3.own)
        have B1 : Base X.KW W S (L2.upd H a (.frz od ho)) := R.base.put l1 l2 fun x ys z => by
          rw [g2] at z; cases z
          exact g3.own
        obtain ⟨B2, le⟩ := B1.knowO (o := .frz od ho) (show Stands _ _ (.frz od ho) from upd_same) l1 l2
        have ne : ∀ b o, X.H_0 b = some o → b ≠ a := fun b o h e => by rw [e, l3] at h; cases h
        have ilt : i < ρ.length := (List.getElem?_eq_some_iff.mp q).1
        refine ⟨_, _, I2, le, B2, ⟨R.ent.le.trans le, fun b o h n => ?_, R.ent.new, fun b o h => ?_, fun b o h => ?_⟩, by simp [R.len], fun j d h => ?_, fun j b => j ≠ i ∧ F j b, fun j s' h => ?_, fun j b h => ?_, fun j k b h1 h2 => O.dis j k b h1.2 h2.2⟩
        · rw [upd_ne (ne b o h)]
          exact R.ent.keep b o h n
        · rw [upd_ne (ne b o h)]
          exact R.ent.ex b o h
        · have h' : (if b = a then some (HO.frz od ho) else W.T b) = some o := h
          by_cases e : b = a
          · exact .inr (by rw [e]; exact l3)
          · rw [if_neg e] at h'
            exact R.ent.newT b o h'
        · by_cases e : i = j
          · subst e
            rw [List.getElem?_set_self ilt] at h
            cases h
            exact ⟨_, g1, a, od, ho, us, ws, rfl, if_pos rfl, g3, g4.mono le, g5.mono le⟩
          · rw [List.getElem?_set_ne e] at h
            obtain ⟨v, h1, h2⟩ := R.val j d h
            exact ⟨v, h1, h2.mono le⟩
        · by_cases e : i = j
          · subst e
            rw [List.getElem?_set_self ilt] at h
            cases h
            exact trivial
          · rw [List.getElem?_set_ne e] at h
            refine (O.at_ j s' h).step le (fun b hb => ?_) fun b hb => ⟨Ne.symm e, hb⟩
            exact upd_ne fun z => by subst z; exact e (O.dis i j b g6 hb)
        · obtain ⟨p1, p2, p3, o, p4, p5⟩ := O.low j b h.2
          have nb : b ≠ a := fun z => by subst z; exact h.1 (O.dis j i b h.2 g6)
          refine ⟨?_, p2, p3, o, by rw [upd_ne nb]; exact p4, p5⟩
          show (if b = a then some (HO.frz od ho) else W.T b) = none
          rw [if_neg nb]; exact p1
theorem dps_lk [XW] {st : Stmt} {d : DS} (i : Nat) (h : PS' X st d) : PS' X st (sLk i d) := by
  refine ⟨fun pins s σ H D I q => ?_⟩
  obtain ⟨W0, W, ρ, S, o, R, hd, k⟩ := q
  obtain ⟨H', W', I', l, R'⟩ := lk_run I R i
  exact h.run pins s σ H' D I' ⟨W0, W', _, S, o, R', hd, k.le l⟩
end

/-! ### tests that store -/
abbrev DM := Env2 → Sh → Option (Bool × Env2 × Sh)
def liftTM (X : Cx) (dm : DM) : TT := fun σ H Q => ∃ W0 W ρ S r ρ' S', RelS X W0 W ρ S σ H ∧ dm ρ S = some (r, ρ', S') ∧ ∀ W' H', Le W W' → RelS X W0 W' ρ' S' σ H' → Q r H'
def mT (keep : List Nat) (dt : DT) : DM := fun ρ S => (dt (fzE keep 0 ρ) S).bind fun p => if chk keep p.2 then some (p.1, ρ, p.2) else none
def mAnd (m1 m2 : DM) : DM := fun ρ S => (m1 ρ S).bind fun p => if p.1 then m2 p.2.1 p.2.2 else some (false, p.2)
def sIfM (m : DM) (d1 d2 : DS) : DS := fun ρ S => (m ρ S).bind fun p => if p.1 then d1 p.2.1 p.2.2 else d2 p.2.1 p.2.2
/-- own.setdefault(k, v): the value, the slots -/
def sdO (i : Nat) (ρ : Env2) (k v : D) : Option (D × Env2) := match ρ[i]? with
  | some (.owx (.d ks vs)) => if famD k = some true ∧ leafB ks = true ∧ ks.length < sizeLine then (match dget ks vs k with
    | some w => some (w, ρ)
    | none => some (v, ρ.set i (.owx (.d (dput ks vs k v).1 (dput ks vs k v).2)))) else none
  | _ => none
def mNeSd (i : Nat) (dk dv dc : DE) : DM := fun ρ S => (dk (fzE [] 0 ρ) S).bind fun p => (dv (fzE [] 0 ρ) p.2).bind fun q => (sdO i ρ p.1 q.1).bind fun w => (dc (fzE [] 0 w.2) q.2).bind fun r => match neO w.1 r.1 with
  | some (.bl b) => some (b, w.2, r.2)
  | _ => none
section
variable {X : Cx} {W0 W W1 : Wd} {ρ : Env2} {S S1 : Sh} {σ : L2.St} {H H1 : Hp} {keep : List Nat} {a b c e f o : Expr} {es : List Expr} {pos : Pos} {dt : DT} {m1 m2 : DM} {dk dv dc : DE} {d1 d2 : DS} {A B : List Stmt}
theorem ptm_t (keep : List Nat) (h : PT' X e dt) : PT X e (liftTM X (mT keep dt)) := PT.imp h fun σ H Q => by
  rintro ⟨W0, W, ρ, S, r, ρ', S', R, hd, k⟩
  obtain ⟨⟨x, S1⟩, e1, hd⟩ := bindS hd
  simp only [Option.ite_none_right_eq_some] at hd
  obtain ⟨h1, hd⟩ := hd
  cases hd
  exact evT R e1 h1 fun W1 H1 l R1 => k W1 H1 l R1
theorem pwm_one (ha : PT X a (liftTM X m1)) : PW X (.BoolOp .And [a] pos) (liftTM X m1) := pw_and1 ha
theorem pwm_and (ha : PT X a (liftTM X m1)) (hb : PW X (.BoolOp .And (b :: es) pos) (liftTM X m2)) : PW X (.BoolOp .And (a :: b :: es) pos) (liftTM X (mAnd m1 m2)) := PW.imp (pw_and ha hb) fun σ H Q => by
  rintro ⟨W0, W, ρ, S, r, ρ', S', R, hd, k⟩
  obtain ⟨⟨x, ρ1, S1⟩, e1, hd⟩ := bindS hd
  refine ⟨W0, W, ρ, S, x, ρ1, S1, R, e1, fun W1 H1 l1 R1 => ?_⟩
  cases x with
  | true =>
    rw [if_pos rfl]
    exact ⟨W0, W1, ρ1, S1, r, ρ', S', R1, by simpa using hd, fun W2 H2 l2 R2 => k W2 H2 (l1.trans l2) R2⟩
  | false =>
    rw [if_neg Bool.false_ne_true]
    simp only [Bool.false_eq_true, if_false] at hd
    cases hd
    exact k W1 H1 l1 R1
theorem dps_ifM [XW] (hc : PT X c (liftTM X m1)) (ha : PSs' X A d1) (hb : PSs' X B d2) : PS' X (.If c A B pos) (sIfM m1 d1 d2) := PS.imp (ps_if hc ha hb) fun D σ H => by
  rintro ⟨W0, W, ρ, S, o, R, h, k⟩
  obtain ⟨⟨r, ρ1, S1⟩, e1, h⟩ := bindS h
  refine ⟨W0, W, ρ, S, r, ρ1, S1, R, e1, fun W1 H1 l R1 => ?_⟩
  cases r with
  | true =>
    rw [if_pos rfl]
    exact ⟨W0, W1, ρ1, S1, o, R1, by simpa using h, k.le l⟩
  | false =>
    rw [if_neg Bool.false_ne_true]
    exact ⟨W0, W1, ρ1, S1, o, R1, by simpa using h, k.le l⟩
theorem leaf_valV {W : Wd} (k : Key) : ∀ {kvs : List (Key × V)} {vs : List D}, Reps W vs (kvs.map (·.2)) → (valV kvs k = none ∧ dget (kvs.map fun p => keyD p.1) vs (keyD k) = none) ∨ ∃ d v, valV kvs k = some v ∧ dget (kvs.map fun p => keyD p.1) vs (keyD k) = some d ∧ Rep W d v
  | [], vs, r => by
    have : vs = [] := by have := r.length; simpa using this.symm
    subst this
    exact .inl ⟨rfl, rfl⟩
  | p :: kvs, [], r => by have := r.length; simp at this
  | p :: kvs, d :: vs, r => by
    obtain ⟨y, r', h1, h2, h3⟩ := r
    rw [List.map_cons] at h1
    injection h1 with h1 h1'
    subst h1 h1'
    rw [List.map_cons, dget, keyD_eq]
    by_cases c : p.1 = k
    · rw [valV_pos c]
      simp only [c, decide_true, if_true]
      exact .inr ⟨d, _, rfl, rfl, h2⟩
    · rw [valV_neg c]
      simp only [c, decide_false, if_false, Bool.false_eq_true]
      exact leaf_valV k h3
theorem leaf_new {W : Wd} (k : Key) {v : D} {x : V} (rv : Rep W v x) : ∀ (kvs : List (Key × V)) (vs : List D), valV kvs k = none → Reps W vs (kvs.map (·.2)) →
    (dput (kvs.map fun p => keyD p.1) vs (keyD k) v).1 = (putK kvs k x).map (fun p => keyD p.1) ∧ Reps W (dput (kvs.map fun p => keyD p.1) vs (keyD k) v).2 ((putK kvs k x).map (·.2)) := fun kvs vs hn r => by
  rw [putK_new x hn]
  induction kvs generalizing vs with
  | nil =>
    have : vs = [] := by have := r.length; simpa using this.symm
    subst this
    exact ⟨rfl, x, [], rfl, rv, rfl⟩
  | cons p kvs ih =>
    cases vs with
    | nil => have := r.length; simp at this
    | cons d vs =>
      obtain ⟨y, r', h1, h2, h3⟩ := r
      rw [List.map_cons] at h1
      injection h1 with h1 h1'
      subst h1 h1'
      have c : ¬ p.1 = k := fun c => by rw [valV_pos c] at hn; cases hn
      rw [valV_neg c] at hn
      rw [List.map_cons, dput, keyD_eq]
      simp only [c, decide_false, if_false, Bool.false_eq_true]
      obtain ⟨g1, g2⟩ := ih vs hn h3
      exact ⟨by rw [g1, List.cons_append, List.map_cons], _, _, rfl, h2, g2⟩
theorem ptm_neSd {i : Nat} {apos cpos : Pos} (hu : X.A.units + 64 < cLine) (ho : PE X o (tVar i)) (hk : PE' X e dk) (hv : PE' X f dv) (hc : PE' X c dc) (m : M2 X o "setdefault" apos e f cpos) (hm : behindInMarks .NotEq c = false) :
    PT X (.Compare (.Call (.Attribute o "setdefault" apos) [e, f] [] cpos) [.NotEq] [c] pos) (liftTM X (mNeSd i dk dv dc)) := PT.imp (pt_cmpR (od_ne hu) (pe_dsetd ho hk hv m) hc hm) fun σ H Q => by
  rintro ⟨W0, W, ρ, S, r, ρ', S', R, hd, k⟩
  obtain ⟨⟨kd, S1⟩, e1, hd1⟩ := bindS hd
  obtain ⟨⟨vd, S2⟩, e2, hd2⟩ := bindS hd1
  obtain ⟨⟨w, ρ1⟩, e3, hd3⟩ := bindS hd2
  obtain ⟨⟨cd, S3⟩, e4, hd4⟩ := bindS hd3
  clear hd hd1 hd2 hd3
  have hz : ∃ z, neO w cd = some (.bl z) ∧ (r, ρ', S') = (z, ρ1, S3) := by
    cases hn : neO w cd with
    | none => simp only [hn] at hd4; cases hd4
    | some y =>
      simp only [hn] at hd4
      cases y <;> first | (cases hd4; exact ⟨_, rfl, rfl⟩) | cases hd4
  obtain ⟨z0, hz, ez⟩ := hz
  cases ez
  unfold sdO at e3
  split at e3
  · rename_i ks vs q
    simp only [Option.ite_none_right_eq_some] at e3
    obtain ⟨⟨f1, f2, f3⟩, e3⟩ := e3
    obtain ⟨k0, rfl⟩ := fam_leaf f1
    obtain ⟨F, O⟩ := R.ownF
    obtain ⟨_, g1, a, ho0, us0, ws0, rfl, g2, g3, g4, g5, g6⟩ := O.at_ i _ q
    obtain ⟨kvs0, rfl, _⟩ := leaf_of g3 g4 f2
    refine ⟨_, g1, a, rfl, .inl ⟨kvs0, .inl g2⟩, evP (keep := []) R e1 rfl fun W1 kv H1 l1 R1 r1 => evP (keep := []) R1 e2 rfl fun W2 vv H2 l2 R2 r2 => ?_⟩
    have r1 := r1 (.inr rfl)
    have r2 := r2 (.inr rfl)
    obtain ⟨F2, O2⟩ := R2.ownF
    obtain ⟨_, g1', a', ho2, us2, ws2, rfl, g2', g3', g4', g5', g6'⟩ := O2.at_ i _ q
    rw [g1] at g1'
    cases g1'
    obtain ⟨kvs, rfl, rfl, rfl, rfl⟩ := leaf_of g3' g4' f2
    have ek : kv = kV k0 := by cases k0 <;> exact r1
    subst ek
    -- behind the look
    have fin : ∀ (W3 : Wd) (x : V) (H3 : Hp), Le W W3 → RelS X W0 W3 ρ' S2 σ H3 → Rep W3 w x → liftE X.KW dc σ H3 fun y H4 => rD X.KW neO x y H4 fun v H5 => ∃ b, v = .bl b ∧ Q b H5 := fun W3 x H3 l3 R3 r3 => by
      refine evP (keep := []) R3 e4 rfl fun W4 y H4 l4 R4 r4 => ?_
      have r4 := r4 (.inr rfl)
      exact ⟨W4, _, w, cd, _, R4.base, r3.mono l4, r4, hz, fun W5 v H5 s5 B5 r5 => ⟨_, r5, k W5 H5 ((l3.trans l4).trans s5.le) (R4.step s5 B5)⟩⟩
    refine ⟨kvs, k0, g2', rfl, by simpa using f3, fun v hv => ?_, fun hn => ?_⟩
    · rcases leaf_valV k0 g5' with ⟨z, _⟩ | ⟨d, v', z1, z2, z3⟩
      · rw [hv] at z; cases z
      · rw [hv] at z1; cases z1
        rw [z2] at e3
        cases e3
        exact fin W2 v H2 (l1.trans l2) R2 z3
    · rcases leaf_valV k0 g5' with ⟨_, z⟩ | ⟨d, v', z1, _, _⟩
      · rw [z] at e3
        cases e3
        obtain ⟨p1, p2⟩ := leaf_new k0 r2 kvs vs hn g5'
        exact fin W2 vv _ (l1.trans l2) (R2.updD O2 g1 g6' (.inl ⟨_, rfl, p1, rfl, rfl⟩) (by rw [p1]; exact leaf_keys _) p2) r2
      · rw [hn] at z1; cases z1
  · cases e3
end
end DL


/-! DL45: walks: a dict by keys and by items, zip of two tuples -/
namespace DL
open PySem L2 PyProof.Rows

/-- what a walk over pairs yields: a new tuple -/
def PairY (x y : V) (H : Hp) (v : V) (H' : Hp) : Prop := ∃ T its, v = .ref T ∧ H T = none ∧ H' = upd H T (.frz (tupOb its) (.tup [x, y]))
theorem pair_new {X : Cx} {pins : List (Addr × Obj)} {σ : L2.St} {H : Hp} {s : Shared} {h' : Heap} {tk : Nat} {ch : List Addr} {x y : V} {u w : Value} (I : Inv X pins σ H s) (kp : ∀ b o, b ∉ ch → s.heap.get? b = some o → h'.get? b = some o) (fo : ∀ b ∈ ch, FpOk X pins H b)
    (ht : h'.get? s.heap.objs.size = some { cls := .type "tuple", data := .seq #[u, w] }) (ru : RelV x u) (rw_ : RelV y w) : ∃ H', Inv X pins σ H' { s with heap := h', toks := tk } ∧ PairY x y H (.ref s.heap.objs.size) H' ∧ ∀ b, H' b = none → H b = none := by
  have no : ObjOk X.prog X.w (upd H s.heap.objs.size (.frz (tupOb [u, w]) (.tup [x, y]))) h' s.heap.objs.size (.frz (tupOb [u, w]) (.tup [x, y])) := tupOb_ok ht (by show 2 ≤ sizeLine; decide) (.cons ru (.cons rw_ .nil))
  have fr : H s.heap.objs.size = none := I.hok.fresh (Nat.le_refl _)
  refine ⟨_, I.turnedNew (t' := tk) kp fo (Nat.le_refl _) no, ⟨_, _, rfl, fr, rfl⟩, fun b hb => ?_⟩
  by_cases e : b = s.heap.objs.size
  · rw [e]; exact fr
  · rwa [upd_ne e] at hb
theorem PairY.low {x y : V} {H H' : Hp} {n : Nat} (p : PairY x y H (.ref n) H') {b : Addr} (hb : b < n) (h : H b = none) : H' b = none := by
  obtain ⟨T, its, e, _, rfl⟩ := p
  cases e
  rw [upd_ne (Nat.ne_of_lt hb)]; exact h

/-! ### a locked dict -/
def ItKey (d : Addr) (o : Obj) (ho : HO) (us : List V) : It :=
  ⟨fun i H => H d = some (.frz o ho) ∧ i < us.length, fun i H x H' => H' = H ∧ us[i]? = some x, fun i H => H d = some (.frz o ho) ∧ us.length ≤ i⟩
def ItItem (d : Addr) (o : Obj) (ho : HO) (us ws : List V) : It :=
  ⟨fun i H => H d = some (.frz o ho) ∧ i < us.length, fun i H v H' => ∃ x y, us[i]? = some x ∧ ws[i]? = some y ∧ PairY x y H v H', fun i H => H d = some (.frz o ho) ∧ us.length ≤ i⟩
theorem frz_at {X : Cx} {pins : List (Addr × Obj)} {σ : L2.St} {H : Hp} {s : Shared} {w : World} {d : Addr} {o : Obj} {ho : HO} {ks : List D} {us ws : List V} {es : Array DictEntry} {ep : Nat} (I : Inv X pins σ H s) (h : H d = some (.frz o ho)) (q : DctO w d ho ks us ws) (hd : o.data = .dict es ep) :
    (d == sysModules) = false ∧ s.heap.get? d = some o ∧ o.ExactDict ∧ us.length ≤ sizeLine ∧ EntsR es us ws := by
  obtain ⟨lo, z, o', es', ep', h1, h2, h3, h4⟩ := q.raw I (.inr ⟨o, h⟩)
  obtain ⟨g, _⟩ := I.hok d _ h
  rw [g] at h1
  cases h1
  rw [hd] at h3
  cases h3
  exact ⟨lo, g, h2, z, h4⟩
section
variable {P : Program} {w : World} {K : PySem.W.Frag} {tg : Expr} {d : Addr} {o : Obj} {ho : HO} {ks : List D} {us ws : List V} {es : Array DictEntry} {ep : Nat}
theorem turn_key (q : DctO w d ho ks us ws) (it : Addr) (hd : o.data = .dict es ep) : Turn P w K tg (ItKey d o ho us) [it] it (fun i h => h.IsKeyIter it d i us.length ep) where
  mem := List.mem_singleton.mpr rfl
  obj := by
    intro i h ⟨ob, e, c, dt⟩ b hb
    rw [List.mem_singleton] at hb
    subst hb
    exact ⟨ob, e, fun v z => by rw [dt] at z; cases z⟩
  keep := fun i h h' st k => st.at fun ob e => k it (List.mem_singleton.mpr rfl) ob e
  item := by
    intro X hP hw hK hc i pins s σ H E I hf st hg
    subst hP hw hK
    obtain ⟨h1, h2⟩ := hg
    obtain ⟨f0, f1, f2, f3, f4, f5⟩ := hf it (List.mem_singleton.mpr rfl)
    obtain ⟨lo, g1, g2, g3, g4, g5, g6⟩ := frz_at I h1 q hd
    have hi : i < es.size := by omega
    obtain ⟨u, y, e1, e2, r1, r2⟩ := g6 i hi
    refine next_key_item st g1 hd g4 (Array.getElem?_eq_getElem hi) fun h' st' sb => ?_
    have I1 : Inv X pins σ H { s with heap := h' } := I.turned (t' := s.toks) (fun b ob nb e => (sb.2 b nb).trans e) f0 f1 f3 f4 f5
    obtain ⟨oi, z1, z2, z3⟩ := id st'
    refine ⟨_, rfl, go_of (s := { s with heap := h' }) z1 z2 z3 (by decide) ⟨u, H, I1, r1, ⟨rfl, e1⟩, st', fun b hb => ?_⟩⟩
    rw [List.mem_singleton] at hb
    rw [hb]; exact f0
  done := by
    intro X hP hw hK hc i pins s σ H E I hf st hg
    subst hP hw hK
    obtain ⟨h1, h2⟩ := hg
    obtain ⟨f0, f1, f2, f3, f4, f5⟩ := hf it (List.mem_singleton.mpr rfl)
    obtain ⟨lo, g1, g2, g3, g4, _⟩ := frz_at I h1 q hd
    exact next_key_end (I.ok.hd hc) st g1 hd g4 h2 fun h' eb => ⟨rfl, I.turned (t' := s.toks) (fun b ob nb e => eb b ob nb e) f0 f1 f3 f4 f5⟩
  self := fun A i s Q E st k => wpAny_pyIter_slot st.typeIs PySem.F.slot_dict_keyiterator_iter (wpAny_call_entry PySem.F.slot_dict_keyiterator_iter st.typeIs PySem.F.entry_dict_keyiterator_iter
    (wpAny_pure ⟨_, rfl, "dict_keyiterator", _, st.typeIs, PySem.F.slot_dict_keyiterator_next.lookup, k⟩) (PySem.F.args_dict_keyiterator_iter_1 _))
theorem turn_item {elts : List Expr} {kk : Nat} {tpos : Pos} (q : DctO w d ho ks us ws) (it : Addr) (hd : o.data = .dict es ep) : Turn P w K (.Tuple elts kk tpos) (ItItem d o ho us ws) [it] it (fun i h => ∃ a b, IsItemIter h it d i us.length ep a b) where
  mem := List.mem_singleton.mpr rfl
  obj := by
    intro i h ⟨a, c, e⟩ b hb
    rw [List.mem_singleton] at hb
    subst hb
    exact ⟨_, e, fun v z => nomatch z⟩
  keep := by
    intro i h h' ⟨a, c, e⟩ k
    exact ⟨a, c, k it (List.mem_singleton.mpr rfl) _ e⟩
  item := by
    intro X hP hw hK hc i pins s σ H E I hf st hg
    subst hP hw hK
    obtain ⟨h1, h2⟩ := hg
    obtain ⟨lo, g1, g2, g3, g4, g5, g6⟩ := frz_at I h1 q hd
    have hi : i < es.size := by omega
    obtain ⟨u, y, e1, e2, r1, r2⟩ := g6 i hi
    obtain ⟨a0, b0, st⟩ := st
    rw [← g4] at st
    have lt : it < s.heap.objs.size := Heap.lt_size st
    refine DT.nextI st ⟨o, g1, g2, hd⟩ hi fun h' z1 z2 z3 z4 => ⟨_, rfl, wpAny_letOwnedTupleGo_items (s := { s with heap := h' }) z1 fun h2' z5 sb => ?_⟩
    have z6 := (sb.2 _ (Nat.ne_of_gt lt)).trans z2
    have kp : ∀ b ob, b ∉ [it] → s.heap.get? b = some ob → h2'.get? b = some ob := fun b ob nb e => by
      rw [List.mem_singleton] at nb
      exact (sb.2 b nb).trans (z4 b ob nb e)
    obtain ⟨H', I', p, _⟩ := pair_new (tk := s.toks) I kp hf z6 r1 r2
    refine ⟨.ref s.heap.objs.size, H', I', rfl, ⟨u, y, e1, e2, p⟩, ⟨_, _, by rw [← g4]; exact z5⟩, fun b hb => ?_⟩
    have e : b = it := List.mem_singleton.mp hb
    rw [e]
    exact p.low lt (hf it (List.mem_singleton.mpr rfl)).1
  done := by
    intro X hP hw hK hc i pins s σ H E I hf st hg
    subst hP hw hK
    obtain ⟨h1, h2⟩ := hg
    obtain ⟨f0, f1, f2, f3, f4, f5⟩ := hf it (List.mem_singleton.mpr rfl)
    obtain ⟨lo, g1, g2, g3, g4, _⟩ := frz_at I h1 q hd
    obtain ⟨a0, b0, st⟩ := st
    rw [← g4] at st
    exact DT.endI (I.ok.hd hc) st ⟨o, g1, g2, hd⟩ (by omega) fun h' eb => ⟨rfl, I.turned (t' := s.toks) (fun b ob nb e => eb b ob nb e) f0 f1 f3 f4 f5⟩
  self := by
    intro A i s Q E ⟨a, b, e⟩ k
    exact PySem.W.kcp_self e k
end
section
variable {X : Cx} {tg e : Expr} {da : DE} {pos apos : Pos}
def iKeysD (d : DE) : DN := fun ρ S => (d ρ S).bind fun p => match p.1 with
  | .dct ks _ => some (ks, p.2)
  | _ => none
def zipD : List D → List D → List D
  | x :: xs, y :: ys => .tup [x, y] :: zipD xs ys
  | _, _ => []
def iItemsD (d : DE) : DN := fun ρ S => (d ρ S).bind fun p => match p.1 with
  | .dct ks vs => some (zipD ks vs, p.2)
  | _ => none
theorem zipD_get : ∀ (xs ys : List D) (i : Nat), xs.length = ys.length → (zipD xs ys)[i]? = match xs[i]?, ys[i]? with
    | some x, some y => some (.tup [x, y])
    | _, _ => none
  | [], [], i, _ => by simp [zipD]
  | x :: xs, y :: ys, 0, _ => by simp [zipD]
  | x :: xs, y :: ys, i + 1, l => by
    rw [zipD, List.getElem?_cons_succ, zipD_get xs ys i (by simpa using l), List.getElem?_cons_succ, List.getElem?_cons_succ]
  | [], _ :: _, _, l => by simp at l
  | _ :: _, [], _, l => by simp at l
theorem zipD_len : ∀ (xs ys : List D), xs.length = ys.length → (zipD xs ys).length = xs.length
  | [], [], _ => rfl
  | x :: xs, y :: ys, l => by rw [zipD, List.length_cons, List.length_cons, zipD_len xs ys (by simpa using l)]
  | [], _ :: _, l => by simp at l
  | _ :: _, [], l => by simp at l
/-- a new pair of what stands -/
theorem pair_rep {K : Fr} {W : Wd} {S : Sh} {H H' : Hp} {x y : D} {u w : V} {v : V} (B : Base K W S H) (p : PairY u w H v H') (rx : Rep W x u) (ry : Rep W y w) : ∃ W', Stp W W' H H' ∧ Base K W' S H' ∧ Rep W' (.tup [x, y]) v := by
  obtain ⟨T, its, rfl, hT, rfl⟩ := p
  obtain ⟨W', s', B', t', _⟩ := B.laidT (x := tupOb its) (vs := [u, w]) hT rfl
  exact ⟨W', s', B', T, _, rfl, t', u, [w], rfl, rx.mono s'.le, w, [], rfl, ry.mono s'.le, rfl⟩
theorem walk_key {K : Fr} {W : Wd} {d : Addr} {o : Obj} {ho : HO} {us : List V} {ks : List D} (t : W.T d = some (.frz o ho)) (r : Reps W ks us) : Walk K W (ItKey d o ho us) ks := fun i W' S' H' l B => by
  have h : H' d = some (.frz o ho) := B.fro d _ (l.T _ _ t)
  have hl := r.length
  refine ⟨fun k hk => ?_, fun hk => ⟨h, ?_⟩⟩
  · obtain ⟨v, h1, h2⟩ := r.get hk
    refine ⟨⟨h, (List.getElem?_eq_some_iff.mp h1).1⟩, fun x H3 y => ?_⟩
    obtain ⟨rfl, y⟩ := y
    rw [h1] at y
    cases y
    exact ⟨W', .refl _ _, B, h2.mono l⟩
  · rw [hl]
    exact List.getElem?_eq_none_iff.mp hk
theorem walk_item {K : Fr} {W : Wd} {d : Addr} {o : Obj} {ho : HO} {us ws : List V} {ks vs : List D} (t : W.T d = some (.frz o ho)) (r : Reps W ks us) (r2 : Reps W vs ws) (lkv : ks.length = vs.length) : Walk K W (ItItem d o ho us ws) (zipD ks vs) := fun i W' S' H' l B => by
  have h : H' d = some (.frz o ho) := B.fro d _ (l.T _ _ t)
  have hl := r.length
  refine ⟨fun k hk => ?_, fun hk => ⟨h, ?_⟩⟩
  · rw [zipD_get ks vs i lkv] at hk
    split at hk
    · rename_i x y hx hy
      cases hk
      obtain ⟨v, h1, h2⟩ := r.get hx
      obtain ⟨v', h3, h4⟩ := r2.get hy
      refine ⟨⟨h, (List.getElem?_eq_some_iff.mp h1).1⟩, fun z H3 p => ?_⟩
      obtain ⟨x', y', e1, e2, p⟩ := p
      rw [h1] at e1; cases e1
      rw [h3] at e2; cases e2
      exact pair_rep B p (h2.mono l) (h4.mono l)
    · cases hk
  · rw [hl, ← zipD_len ks vs lkv]
    exact List.getElem?_eq_none_iff.mp hk
theorem DctO.lens {w : World} {a : Addr} {ho : HO} {ks : List D} {us ws : List V} (q : DctO w a ho ks us ws) : us.length = ks.length ∧ ws.length = ks.length := by
  rcases q with ⟨kvs, rfl, rfl, rfl, rfl⟩ | ⟨xs, ne, rfl, e, rfl, rfl⟩
  · exact ⟨by simp, by simp⟩
  · have := congrArg List.length e
    simp at this
    exact ⟨by simp; omega, by simp; omega⟩
theorem dpi_keys (he : PE' X e da) : PI' X tg e (iKeysD da) := ⟨fun pins s σ H R I h => by
  obtain ⟨W, ρ, S, ds, S', R', hd, k⟩ := h
  obtain ⟨⟨r, S1⟩, e1, hd⟩ := bindS hd
  cases r <;> simp only [reduceCtorEq, Option.some.injEq, Prod.mk.injEq] at hd
  rename_i ks vs
  obtain ⟨rfl, rfl⟩ := hd
  refine thn (he.run pins s σ H (fun v H1 => ∃ W1, Stp W W1 H H1 ∧ Rel X.KW W1 ρ S1 σ H1 ∧ Rep W1 (.dct ks vs) v) I ⟨W, ρ, S, _, S1, R', e1, fun W1 v H1 s1 R1 r1 => ⟨W1, s1, R1, r1⟩⟩) fun u s1 ⟨v, H1, I1, rv, W1, st1, R1, r1⟩ => ?_
  obtain ⟨a, o, ho, us, ws, rfl, t, q, r2, r3⟩ := r1
  obtain rfl : u = Value.ref a := rv
  have q' : DctO X.w a ho ks us ws := by have := R1.base.sa.1; rw [show W1.w = X.w from this] at q; exact q
  have h1 : H1 a = some (.frz o ho) := R1.base.fro a _ t
  obtain ⟨lo, z, o', es, ep, g1, g2, g3, g4⟩ := q'.raw I1 (.inr ⟨o, h1⟩)
  obtain ⟨g0, _⟩ := I1.hok a _ h1
  rw [g0] at g1
  cases g1
  refine iter_keys lo g0 g2 g3 (pi_one (tk := s1.toks) I1 _ (turn_key q' _ g3) ⟨_, Heap.get?_push_size _ rfl, rfl, ?_⟩ (k W1 H1 _ st1 R1 (walk_key t r2)))
  rw [g4.1] <;> rfl⟩
theorem dpi_items {elts : List Expr} {kk : Nat} {tpos : Pos} (he : PE' X e da) (hbase : attributeBase e "items" X.env (eval e X.env) = eval e X.env := by rfl) (hline : (apos.endLine == pos.line) = true := by rfl) :
    PI' X (.Tuple elts kk tpos) (.Call (.Attribute e "items" apos) [] [] pos) (iItemsD da) := ⟨fun pins s σ H R I h => by
  obtain ⟨W, ρ, S, ds, S', R', hd, k⟩ := h
  obtain ⟨⟨r, S1⟩, e1, hd⟩ := bindS hd
  cases r <;> simp only [reduceCtorEq, Option.some.injEq, Prod.mk.injEq] at hd
  rename_i ks vs
  obtain ⟨rfl, rfl⟩ := hd
  refine wpAny_Call_method (T := "dict") (id := "dict.items") hbase rfl hline PySem.F.plainAttrs_dict PySem.F.slot_dict_items PySem.F.type_dict_items (thn (he.run pins s σ H (fun v H1 => ∃ W1, Stp W W1 H H1 ∧ Rel X.KW W1 ρ S1 σ H1 ∧ Rep W1 (.dct ks vs) v) I ⟨W, ρ, S, _, S1, R', e1, fun W1 v H1 s1 R1 r1 => ⟨W1, s1, R1, r1⟩⟩) fun u s1 ⟨v, H1, I1, rv, W1, st1, R1, r1⟩ => ?_)
  obtain ⟨a, o, ho, us, ws, rfl, t, q, r2, r3⟩ := r1
  obtain rfl : u = Value.ref a := rv
  have q' : DctO X.w a ho ks us ws := by have := R1.base.sa.1; rw [show W1.w = X.w from this] at q; exact q
  have h1 : H1 a = some (.frz o ho) := R1.base.fro a _ t
  obtain ⟨lo, z, o', es, ep, g1, g2, g3, g4⟩ := q'.raw I1 (.inr ⟨o, h1⟩)
  obtain ⟨g0, _⟩ := I1.hok a _ h1
  rw [g0] at g1
  cases g1
  have ty : s1.TypeIs (.ref a) "dict" := ⟨o, g0, g2.1⟩
  have hl := r2.length
  have hl2 := r3.length
  have ll := q'.lens
  refine ⟨ty, fun b hb => by cases hb; exact ⟨o, g0, g2.2.1⟩, ?_⟩
  have I2 : Inv X pins σ H1 { s1 with heap := s1.heap.push { cls := .type "dict_items", data := .fields #[.ref a] } } := I1.kept (t' := s1.toks) fun b ob e => Heap.get?_push_of_some _ e
  have raw2 : DT.Raw (s1.heap.push { cls := .type "dict_items", data := .fields #[.ref a] }) a es ep := ⟨o, Heap.get?_push_of_some _ g0, g2, g3⟩
  have fin : wpAny (model X.prog X.w) X.A (pyIter (.ref s1.heap.objs.size)) (PIE X pins σ (.Tuple elts kk tpos) R) X.xe { s1 with heap := s1.heap.push { cls := .type "dict_items", data := .fields #[.ref a] } } := by
    refine DT.iterI (d := a) (es := es) (ep := ep) ⟨_, Heap.get?_push_size _ rfl, rfl, rfl⟩ raw2 (pi_one (tk := s1.toks) I2 _ (turn_item q' _ g3) ⟨.none, .none, ?_⟩ (k W1 H1 _ st1 R1 (walk_item t r2 r3 (by omega))))
    rw [← g4.1]
    exact Heap.get?_push_size _ rfl
  show wpAny _ _ (callWith pos (.builtin "dict.items") [.ref a] [] []) _ X.xe s1
  exact method_meetsIn PySem.F.slot_dict_items PySem.F.entry_dict_items rfl (PySem.evalArgs_none ⟨rfl, ty, PySem.F.args_dict_items_1 _, _, DT.meetsItems (es := es) (ep := ep) lo, ⟨o, g0, g2, g3⟩, fin⟩)⟩
end
end DL


/-! DL46: zip of two tuples -/
namespace DL
open PySem L2 PyProof.Rows RZ

def ItZip (xs ys : List V) (a b : Addr) (K : PySem.W.Frag) : It :=
  ⟨fun i H => SqT K H a xs ∧ SqT K H b ys ∧ i < xs.length ∧ i < ys.length, fun i H v H' => ∃ x y, xs[i]? = some x ∧ ys[i]? = some y ∧ PairY x y H v H', fun i H => SqT K H a xs ∧ SqT K H b ys ∧ (xs.length ≤ i ∨ ys.length ≤ i)⟩
theorem five {z TI TO i1 i2 c : Addr} (h : c ∈ [z, TI, TO, i1, i2]) : c = z ∨ c = TI ∨ c = TO ∨ c = i1 ∨ c = i2 := by simpa using h
theorem notfive {z TI TO i1 i2 c : Addr} (h : c ∉ [z, TI, TO, i1, i2]) : c ≠ z ∧ c ≠ TI ∧ c ≠ TO ∧ c ≠ i1 ∧ c ≠ i2 := by
  simp only [List.mem_cons, List.not_mem_nil, or_false, not_or] at h
  exact h
theorem turn_zp {P : Program} {w : World} {K : PySem.W.Frag} {elts : List Expr} {kk : Nat} {tpos : Pos} {a b z TI TO i1 i2 : Addr} {xs ys : List V} (D : ZipApart z TI TO i1 i2 a b) :
    Turn P w K (.Tuple elts kk tpos) (ItZip xs ys a b K) [z, TI, TO, i1, i2] z (fun i h => IsZip h z TI TO .none ∧ IsPair h TI (.ref i1) (.ref i2) ∧ (∃ p q, IsPair h TO p q) ∧ h.IsTupleIter i1 a i ∧ h.IsTupleIter i2 b i) where
  mem := by simp
  obj := by
    rintro i h ⟨e1, e2, ⟨p, q, e3⟩, ⟨o1, e4, c4, d4⟩, ⟨o2, e5, c5, d5⟩⟩ c hc
    rcases five hc with rfl | rfl | rfl | rfl | rfl
    · exact ⟨_, e1, fun v z => nomatch z⟩
    · exact ⟨_, e2, fun v z => nomatch z⟩
    · exact ⟨_, e3, fun v z => nomatch z⟩
    · exact ⟨_, e4, fun v z => by rw [d4] at z; cases z⟩
    · exact ⟨_, e5, fun v z => by rw [d5] at z; cases z⟩
  keep := by
    rintro i h h' ⟨e1, e2, ⟨p, q, e3⟩, e4, e5⟩ k
    exact ⟨k z (by simp) _ e1, k TI (by simp) _ e2, ⟨p, q, k TO (by simp) _ e3⟩, e4.at fun ob e => k i1 (by simp) ob e, e5.at fun ob e => k i2 (by simp) ob e⟩
  item := by
    intro X hP hw hK hc i pins s σ H E I hf st hg
    subst hP hw hK
    obtain ⟨e1, e2, ⟨p0, q0, e3⟩, e4, e5⟩ := st
    obtain ⟨qx, qy, lx, ly⟩ := hg
    obtain ⟨us, rv, p, _⟩ := I.tuple qx
    obtain ⟨us2, rv2, p2, _⟩ := I.tuple qy
    have hx : xs[i]? = some xs[i] := List.getElem?_eq_getElem lx
    have hy : ys[i]? = some ys[i] := List.getElem?_eq_getElem ly
    obtain ⟨u, hu, ru⟩ := rv.get hx
    obtain ⟨u2, hu2, ru2⟩ := rv2.get hy
    have zl : z < s.heap.objs.size := Heap.lt_size e1
    refine pyNext_zipT_item D e1 e2 e3 e4 e5 p p2 (x := u) (y := u2) (by simpa using hu) (by simpa using hu2) fun h' g1 g2 g3 g4 g5 g6 g7 => ⟨_, rfl, wpAny_letOwnedTupleGo_zip (s := { s with heap := h' }) g1 fun h'' g8 sb => ?_⟩
    have g9 := (sb.2 _ (Nat.ne_of_gt zl)).trans g5
    have kp : ∀ c ob, c ∉ [z, TI, TO, i1, i2] → s.heap.get? c = some ob → h''.get? c = some ob := fun c ob nc e => by
      obtain ⟨n1, n2, n3, n4, n5⟩ := notfive nc
      exact (sb.2 c n1).trans (g7 c ob n1 n3 n4 n5 e)
    obtain ⟨H', I', pr, _⟩ := pair_new (tk := s.toks) I kp hf g9 ru ru2
    refine ⟨.ref s.heap.objs.size, H', I', rfl, ⟨_, _, hx, hy, pr⟩, ⟨g8, (sb.2 _ D.TIz).trans (g7 _ _ D.TIz D.TITO D.TIi1 D.TIi2 e2), ⟨u, u2, (sb.2 _ D.TOz).trans g2⟩, g3.at fun ob e => (sb.2 _ D.i1z).trans e, g4.at fun ob e => (sb.2 _ D.i2z).trans e⟩, fun c hcm => ?_⟩
    refine pr.low ?_ (hf c hcm).1
    rcases five hcm with rfl | rfl | rfl | rfl | rfl
    · exact zl
    · exact Heap.lt_size e2
    · exact Heap.lt_size e3
    · obtain ⟨_, e, _⟩ := e4; exact Heap.lt_size e
    · obtain ⟨_, e, _⟩ := e5; exact Heap.lt_size e
  done := by
    intro X hP hw hK hc i pins s σ H E I hf st hg
    subst hP hw hK
    obtain ⟨e1, e2, ⟨p0, q0, e3⟩, e4, e5⟩ := st
    obtain ⟨qx, qy, le⟩ := hg
    obtain ⟨us, rv, p, _⟩ := I.tuple qx
    obtain ⟨us2, rv2, p2, _⟩ := I.tuple qy
    have l1 := rv.length
    have l2 := rv2.length
    have en : us.toArray[i]? = none ∨ us2.toArray[i]? = none := by
      rcases le with q | q
      · exact .inl (by simp; omega)
      · exact .inr (by simp; omega)
    exact pyNext_zipT_end (I.ok.hd hc) D e1 e2 e3 e4 e5 p p2 en fun h' hk => ⟨rfl, I.turnedL (t' := s.toks) (ch := [z, TI, TO, i1, i2]) (fun c ob nc e => by
      obtain ⟨n1, n2, n3, n4, n5⟩ := notfive nc
      exact hk c ob n1 n3 n4 n5 e) hf⟩
  self := fun A i s Q E st h => wpAny_pyIter_zip st.1 h
/-- the pairs of two tuples, as many as the shorter one has -/
def iZip (dl : DA) : DN := fun ρ S => (dl ρ S).bind fun p => match p.1 with
  | [.tup xs, .tup ys] => some (zipD xs ys, p.2)
  | _ => none
theorem zip_get : ∀ (xs ys : List D) (i : Nat), (zipD xs ys)[i]? = match xs[i]?, ys[i]? with
    | some x, some y => some (.tup [x, y])
    | _, _ => none
  | [], ys, i => by simp [zipD]
  | x :: xs, [], i => by cases h : (x :: xs)[i]? <;> simp [zipD]
  | x :: xs, y :: ys, 0 => by simp [zipD]
  | x :: xs, y :: ys, i + 1 => by
    rw [zipD, List.getElem?_cons_succ, zip_get xs ys i, List.getElem?_cons_succ, List.getElem?_cons_succ]
theorem walk_zip {K : Fr} {W : Wd} {a b : Addr} {xs ys : List V} {ds es : List D} (ta : W.T a = some (.tup xs)) (tb : W.T b = some (.tup ys)) (r : Reps W ds xs) (r2 : Reps W es ys) : Walk K W (ItZip xs ys a b K) (zipD ds es) := fun i W' S' H' l B => by
  have h1 := B.tup (l.T _ _ ta)
  have h2 := B.tup (l.T _ _ tb)
  have l1 := r.length
  have l2 := r2.length
  refine ⟨fun k hk => ?_, fun hk => ?_⟩
  · rw [zip_get] at hk
    split at hk
    · rename_i x y hx hy
      cases hk
      obtain ⟨v, g1, g2⟩ := r.get hx
      obtain ⟨v', g3, g4⟩ := r2.get hy
      refine ⟨⟨h1, h2, (List.getElem?_eq_some_iff.mp g1).1, (List.getElem?_eq_some_iff.mp g3).1⟩, fun z H3 p => ?_⟩
      obtain ⟨x', y', e1, e2, p⟩ := p
      rw [g1] at e1; cases e1
      rw [g3] at e2; cases e2
      exact pair_rep B p (g2.mono l) (g4.mono l)
    · cases hk
  · rw [zip_get] at hk
    refine ⟨h1, h2, ?_⟩
    by_cases q : xs.length ≤ i
    · exact .inl q
    · refine .inr ?_
      by_cases q2 : ys.length ≤ i
      · exact q2
      · rw [List.getElem?_eq_getElem (show i < ds.length by omega), List.getElem?_eq_getElem (show i < es.length by omega)] at hk
        cases hk
theorem dpi_zip {X : Cx} {e e2 : Expr} {dl : DA} {p pos tpos : Pos} {elts : List Expr} {kk : Nat} (hg : Gl X "zip") (hm : X.mg "zip" = none) (ha : PA' X [e, e2] dl)
    (hs : starEach [e, e2] X.env = (false, eval e X.env) :: starEach [e2] X.env := by rfl) (hpl : (backTo pos (starEach [e2] X.env)).any (·.1) = false := by rfl) :
    PI' X (.Tuple elts kk tpos) (.Call (.Name "zip" p) [e, e2] [] pos) (iZip dl) := ⟨fun pins s σ H R I h => by
  obtain ⟨W, ρ, S, ds, S', R', hd, k⟩ := h
  obtain ⟨⟨r, S1⟩, e1, hd⟩ := bindS hd
  split at hd
  · rename_i xs ys heq
    cases hd
    obtain rfl : r = [.tup xs, .tup ys] := heq
    refine Call_ (ld_blt I hg hm PyProof.Rows.boot_zip (PyProof.Rows.callWith_type1 (thn (ha.run pos pins s σ H (fun vs H1 => ∃ W1, Stp W W1 H H1 ∧ Rel X.KW W1 ρ S1 σ H1 ∧ Reps W1 [.tup xs, .tup ys] vs) I ⟨W, ρ, S, _, S1, R', e1, fun W1 v H1 s1 R1 r1 => ⟨W1, s1, R1, r1⟩⟩) fun us s1 ⟨vs, H1, I1, rv, W1, st1, R1, r1⟩ => ?_) hs hpl))
    obtain ⟨v1, v2, rfl, q1, q2⟩ := reps2 r1
    obtain ⟨a, as, rfl, t1, q1⟩ := q1
    obtain ⟨b, bs, rfl, t2, q2⟩ := q2
    cases rv with
    | cons ra rr =>
      cases rr with
      | cons rb rr =>
        cases rr
        cases ra
        cases rb
        obtain ⟨its, _, p1, _⟩ := I1.tuple (R1.base.tup t1)
        obtain ⟨its2, _, p2, _⟩ := I1.tuple (R1.base.tup t2)
        have lt1 : a < s1.heap.objs.size := by obtain ⟨o1, h1, _⟩ := id p1; exact Heap.lt_size h1
        have lt2 : b < s1.heap.objs.size := by obtain ⟨o2, h2, _⟩ := id p2; exact Heap.lt_size h2
        refine call_zipT (show s1.heap.IsTuple a its.toArray from p1) (show s1.heap.IsTuple b its2.toArray from p2) fun h' g1 g2 g3 g4 g5 g6 g7 => wpAny_pyIter_zip g1 ?_
        have I2 : Inv X pins σ H1 { s1 with heap := h' } := I1.kept (t' := s1.toks) g7
        refine ⟨s1.heap.objs.size + 4, [s1.heap.objs.size + 4, s1.heap.objs.size + 2, s1.heap.objs.size + 3, s1.heap.objs.size, s1.heap.objs.size + 1], _, _, H1, rfl, I2, turn_zp (xs := as) (ys := bs) (PySem.W.ktu_apart s1.heap.objs.size a b lt1 lt2), ⟨g1, g2, ⟨_, _, g3⟩, g4, g5⟩, fun c hc => ?_, k W1 H1 _ st1 R1 (walk_zip t1 t2 q1 q2)⟩
        have le : s1.heap.objs.size ≤ c := by rcases five hc with rfl | rfl | rfl | rfl | rfl <;> omega
        exact I1.fpOk le (I1.hok.fresh le)
  · cases hd⟩
end DL


/-! DL47: dict comprehensions -/
namespace DL
open PySem L2 PyProof.Rows

section
variable {X : Cx} {W : Wd} {S : Sh} {H : Hp} {pins : List (Addr × Obj)} {σ : L2.St} {s : Shared}
/-- the same as dctSet, as a comprehension stores -/
theorem dctSetC {a : Addr} {ks vs : List D} {k v : D} {y x : V} {u r : Value} {E : Value → Shared → Prop} {Q : Unit → Shared → Prop} {ho : HO} {us ws : List V} (hu : X.A.units + 64 < cLine) (I : Inv X pins σ H s) (B : Base X.KW W S H) (ha : H a = some ho) (q : DctO W.w a ho ks us ws) (r1 : Reps W ks us) (r2 : Reps W vs ws)
    (fit : keyFit ks k = true) (hl : ks.length < sizeLine) (rk : Rep W k y) (ry : RelV y u) (rv : Rep W v x) (rx : RelV x r) (h : ∀ ho' s', Stored W H a (dput ks vs k v).1 (dput ks vs k v).2 ho' → ownO ho' → Inv X pins σ (upd H a ho') s' → Q () s') :
    wpAny (model X.prog X.w) X.A (dictSet a u r) Q E s := by
  have hw : W.w = X.w := B.sa.1
  cases hf : famD k with
  | none => unfold keyFit at fit; rw [hf] at fit; cases fit
  | some fb =>
    cases fb with
    | true =>
      obtain ⟨k0, rfl⟩ := fam_leaf hf
      have hy : y = kV k0 := by cases k0 <;> exact rk
      subst hy
      have lf : leafB ks = true := by unfold keyFit at fit; rw [hf] at fit; exact fit
      obtain ⟨kvs, rfl, e3, e4, e5⟩ := leaf_of q r1 lf
      subst e3 e4 e5
      obtain ⟨z, hd, vs', rel, dd⟩ := dk_rd I.hok (.inl ha)
      have hn : (kvs.map (·.1)).Nodup := by
        obtain ⟨_, _, _, _, _, _, _, _, hn⟩ := dd
        rw [rel.keys]; exact hn
      obtain ⟨g1, g2⟩ := leaf_put k0 rv kvs vs hn r2
      exact d_dictSet I ha (by simpa using hl) ry rx fun s' I' => h _ s' ⟨_, _, .inl ⟨_, rfl, g1, rfl, rfl⟩, by rw [g1]; exact leaf_keys _, g2⟩ trivial I'
    | false =>
      obtain ⟨ds, k0, rfl, hk, hdep⟩ := fam_tup hf
      have hn := nk_is I B _ y u k0 hk rk ry
      obtain ⟨b, vs1, us1, rfl, rfl, _⟩ := B.isTup I rk ry
      obtain ⟨xs, ys, e, rfl, rfl, pr, dd, z, hd⟩ := q.tups I B (.inl ha) r1 fit hf
      have hl' : xs.length < sizeLine := by have := congrArg List.length e; simp at this; omega
      obtain ⟨f1, f2, f3⟩ := tup_dput hk rk rv e r1 r2
      have hnd : (ys.map (·.1)).Nodup := by obtain ⟨_, _, _, _, _, _, _, _, hn⟩ := dd; exact hn
      have room : (nestedKind X.prog X.w).room X.A := by
        show X.A.units + 8 < cLine
        omega
      refine wpAny_dictSet_heap (knd := nestedKind X.prog X.w) room ⟨hn, hdep⟩ dd (fun h' dd' hs => ?_) z
      have he : ∃ q, h'.get? a = some q := let ⟨q, _, _, hq, _⟩ := dd'; ⟨q, hq⟩
      refine h (ndO W.w a (putN k0 b x xs)) _ ⟨_, _, .inr ⟨_, putN_ne _ _ _ _, rfl, f1, rfl, rfl⟩, f2, f3⟩ trivial (d_write I (by rw [ha]; exact ownO_mut q.own) hs he (nd_ok dd' (tup_put rx pr hnd) ?_ hd _ hw))
      have := putN_len k0 b x xs
      omega
end
/-- what a turn's store asks and gives -/
def CPut (K : Fr) (D : Addr) (y z : V) (H : Hp) (Nx : Hp → Prop) : Prop := ∃ W S ks vs k v ho us ws, Base K W S H ∧ H D = some ho ∧ DctO W.w D ho ks us ws ∧ Reps W ks us ∧ Reps W vs ws ∧ keyFit ks k = true ∧ ks.length < sizeLine ∧ Rep W k y ∧ Rep W v z ∧
  ∀ ho', Stored W H D (dput ks vs k v).1 (dput ks vs k v).2 ho' → ownO ho' → Nx (upd H D ho')
def tDcx (K : Fr) (wi : TI) (g : TG) (tt : TT) (tk tv : TE) (vs : List Nat) : TE := fun σ H Q => wi σ H fun J H1 => ∀ D, H1 D = none → ∃ W : Nat → Nat → Hp → Prop, (∃ m, W 0 m (upd H1 D (.dK []))) ∧ ∀ i m H, W i m H →
  (J.stop i H ∧ Q (.ref D) H) ∨ (J.go i H ∧ ∃ Nx : Hp → Prop, (∀ H', Nx H' → ∃ m', m' < m ∧ W (i + 1) m' H') ∧ ∀ x H', J.yld i H x H' → g x (wipe σ vs) H' fun σ2 H2 => wipe σ2 vs = wipe σ vs ∧ tt σ2 H2 fun b H3 =>
    if b = true then tk σ2 H3 fun y H4 => tv σ2 H4 fun z H5 => CPut K D y z H5 Nx else Nx H3)
section
variable {X : Cx}
theorem dcx_core {pins : List (Addr × Obj)} {s : Shared} {σ : L2.St} {H : Hp} {Q : VK} {kx vx tg iter : Expr} {ifs : List Expr} {scope : Scope} {own : List (Str × Nat)} {pos pos' : Pos} {wi : TI} {g : TG} {tt : TT} {tk tv : TE} {use : Option (Value → Sem Unit)} {Qf : Value → Shared → Prop}
    (hu : X.A.units + 64 < cLine) (hc : X.calm = true) (hN : X.N.Nodup) (I : Inv X pins σ H s) (hi : PI X tg iter wi) (ok : BlkOk X.N X.env.scope scope own)
    (hg : ∀ (s : Shared) (H : Hp) (C : Addr) (cl : List (Str × Addr)) (fp : List Addr), PG (X.blk s H scope (compEnvC scope cl C X.env) fp) tg g)
    (ht : ∀ (s : Shared) (H : Hp) (C : Addr) (cl : List (Str × Addr)) (fp : List Addr), PTs (X.blk s H scope (compEnvC scope cl C X.env) fp) ifs tt)
    (hk : ∀ (s : Shared) (H : Hp) (C : Addr) (cl : List (Str × Addr)) (fp : List Addr), PE (X.blk s H scope (compEnvC scope cl C X.env) fp) kx tk)
    (he : ∀ (s : Shared) (H : Hp) (C : Addr) (cl : List (Str × Addr)) (fp : List Addr), PE (X.blk s H scope (compEnvC scope cl C X.env) fp) vx tv)
    (hs : ∀ x, foldedSetIterable iter X.env x = pure x) (h : tDcx X.KW wi g tt tk tv (own.map (·.2)) σ H Q)
    (fin : ∀ D C s' m H', Inv X pins σ H' s' → Q (.ref D) H' → s'.heap.Ns C m → FpOk X pins H' C → compPost (model X.prog X.w) X.A X.xe use Qf (.ref D) C (.ok .next) s') :
    wpAny (model X.prog X.w) X.A (comprehension (.DictComp kx vx [⟨tg, iter, ifs, 0⟩] scope pos) scope X.env pos' newDict false (eval iter X.env) use) Qf X.xe s := by
  have free : ∀ y ∈ scope.names, y.2 = .free → ∃ c, X.env.cells.lookup y.1 = some c := fun y hy e => (ok.free y hy e).elim (fun k => I.ok.has _ (.inl k)) fun k => I.ok.has _ (.inr k)
  refine wpAny_comprehension_free (use := use) rfl hs (closure_ok free) ok.kind (fun y hy e => by rw [ok.uniq y hy, e]) (thn (hi.run pins s σ H _ I h) fun _ s1 hx => thn hx fun _ s2 h2 => ?_)
  obtain ⟨it, fp, tn, J, H2, rfl, I2, T, st2, f2, q⟩ := h2
  refine wpAny_newObj_type (newEnv_comp ?_)
  generalize hD : s2.heap.objs.size = D
  have nD : H2 D = none := I2.hok.fresh (Nat.le_of_eq hD)
  obtain ⟨W, ⟨m0, w0⟩, turn⟩ := q D nD
  -- the new dict stands
  generalize es3 : ({ s2 with heap := s2.heap.push { cls := .type "dict", data := .dict #[] } } : Shared) = s3
  have I3 : Inv X pins σ (upd H2 D (.dK [])) s3 := by
    subst es3
    refine I2.laid (t' := s2.toks) (fun b o e => Heap.get?_push_of_some _ e) (Nat.le_of_eq hD) ?_
    rw [← hD]
    exact dk_empty s2.heap I2.big
  have eh3 : s3.heap = s2.heap.push { cls := .type "dict", data := .dict #[] } := by rw [← es3]
  have below : ∀ b ∈ fp, b < s2.heap.objs.size := fun b hb => let ⟨o, e, _⟩ := T.obj _ _ st2 b hb; Heap.lt_size e
  have f3 : ∀ b ∈ fp, FpOk X pins (upd H2 D (.dK [])) b ∧ b < s3.heap.objs.size := fun b hb => by
    have lt := below b hb
    have ne : b ≠ D := by rw [← hD]; exact Nat.ne_of_lt lt
    exact ⟨⟨by rw [upd_ne ne]; exact (f2 b hb).1, (f2 b hb).2⟩, by rw [eh3, Heap.size_push]; exact Nat.lt_succ_of_lt lt⟩
  have st3 : tn 0 s3.heap := T.keep _ _ _ st2 fun b _ o e => by rw [eh3]; exact Heap.get?_push_of_some _ e
  have I4 := block_start I3 ok hN f3
  have pg := hg s3 (upd H2 D (.dK [])) s3.heap.objs.size (cellsFrom (s3.heap.objs.size + 1) scope.names (cloFrom X.env.cells scope.names [])) fp
  have pt := ht s3 (upd H2 D (.dK [])) s3.heap.objs.size (cellsFrom (s3.heap.objs.size + 1) scope.names (cloFrom X.env.cells scope.names [])) fp
  have pk := hk s3 (upd H2 D (.dK [])) s3.heap.objs.size (cellsFrom (s3.heap.objs.size + 1) scope.names (cloFrom X.env.cells scope.names [])) fp
  have pv := he s3 (upd H2 D (.dK [])) s3.heap.objs.size (cellsFrom (s3.heap.objs.size + 1) scope.names (cloFrom X.env.cells scope.names [])) fp
  show codeAny _ _ (.compStart (.DictComp kx vx [⟨tg, iter, ifs, 0⟩] scope pos) 0 (.ref it) (.ref D) (compEnvC scope (cellsFrom (s3.heap.objs.size + 1) scope.names (cloFrom X.env.cells scope.names [])) s3.heap.objs.size X.env))
    (compPost (model X.prog X.w) X.A X.xe use Qf (.ref D) s3.heap.objs.size) { s3 with heap := pushCells (s3.heap.push { cls := .type "dict", data := .dict #[] }) scope.names }
  have nfp : ∀ b ∈ fp, upd H2 D (.dK []) b = none := fun b hb => (f3 b hb).1.1
  generalize ece : compEnvC scope (cellsFrom (s3.heap.objs.size + 1) scope.names (cloFrom X.env.cells scope.names [])) s3.heap.objs.size X.env = ce at I4 pg pt pk pv ⊢
  have cl : ce.locals = s3.heap.objs.size := by rw [← ece]; rfl
  generalize eH3 : upd H2 D (.dK []) = H3 at I3 I4 pg pt pk pv w0 nfp f3
  generalize es4 : ({ s3 with heap := pushCells (s3.heap.push { cls := .type "dict", data := .dict #[] }) scope.names } : Shared) = s4 at I4 ⊢
  have st4 : tn 0 s4.heap := T.keep _ _ _ st3 fun b _ o e => by rw [← es4]; exact pushCells_keeps _ _ _ _ (Heap.get?_push_of_some _ e)
  have mine : ∀ {σ' : L2.St} {H' : Hp} {s' : Shared}, Inv (X.blk s3 H3 scope ce fp) [] σ' H' s' → (∀ b ∈ fp, H' b = none) → ∀ b ∈ fp, FpOk (X.blk s3 H3 scope ce fp) [] H' b := fun {σ' H' s'} I' hn b hb =>
    ⟨hn b hb, (I'.ok.exf b hb).1, I'.ok.exfs b hb, .inl hb, fun x c e => (I'.ok.exf b hb).2 x c e, fun p hp => absurd (show p ∈ ([] : List (Addr × Obj)) ++ [] from hp) List.not_mem_nil⟩
  refine (fun loop => codeAny_compStart_dict loop (T.self X.A 0 _ _ _ st4 loop)) ?_
  refine compLoop_anyD (fun n s' => ∃ i H', Inv (X.blk s3 H3 scope ce fp) [] (wipe σ (own.map (·.2))) H' s' ∧ tn i s'.heap ∧ (∀ b ∈ fp, H' b = none) ∧ W i n H') ?_ m0 ⟨0, H3, I4, st4, nfp, w0⟩
  rintro n s5 ⟨i, H5, I5, st5, n5, w5⟩
  rcases turn i n H5 w5 with ⟨stop, qq⟩ | ⟨go, Nx, hNx, step⟩
  · refine thnF (T.done (X.blk s3 H3 scope ce fp) rfl rfl rfl hc i [] s5 _ H5 (fun _ _ => False) I5 (mine I5 n5) st5 stop) fun r s6 ⟨er, I6⟩ => ?_
    subst er
    -- the def's own frame again
    have I7 : Inv X pins σ H5 s6 := I3.call' (ch := fp) I6.os I6.base I6.hok I6.bare fun b hb => ⟨(f3 b hb).1.2.2.2.1, (f3 b hb).1.2.1, (f3 b hb).1.2.2.2.2.1, (f3 b hb).1.2.2.2.2.2⟩
    have nC : H5 s3.heap.objs.size = none := by rw [← cl]; exact I6.free
    obtain ⟨m, hn, _⟩ := I6.loc
    have hn' : s6.heap.Ns s3.heap.objs.size m := by rw [← cl]; exact hn
    exact fin D s3.heap.objs.size s6 m H5 I7 qq hn' (I3.fpOk (Nat.le_refl _) nC)
  · refine thnF (T.item (X.blk s3 H3 scope ce fp) rfl rfl rfl hc i [] s5 _ H5 (fun _ _ => False) I5 (mine I5 n5) st5 go) fun r s6 ⟨u, er, h6⟩ => ?_
    subst er
    refine thnF h6 fun _ s7 ⟨x, H7, I7, r7, y7, st7, n7⟩ => ?_
    refine thnF (pg.run _ s7 _ H7 x u _ (I7.pinned (mine I7 n7) (T.obj _ _ st7)) r7 (step x H7 y7)) fun _ s8 ⟨σ8, H8, I8, ew, q8⟩ => ?_
    refine thnF (pt.run _ s8 σ8 H8 _ I8 q8) fun b s9 ⟨H9, I9, q9⟩ => ?_
    -- behind the turn
    have next : ∀ {s' : Shared} {H' : Hp}, Inv (X.blk s3 H3 scope ce fp) ([] ++ pinsAt fp s7.heap) σ8 H' s' → Nx H' → ∃ m, m < n ∧ ∃ i H', Inv (X.blk s3 H3 scope ce fp) [] (wipe σ (own.map (·.2))) H' s' ∧ tn i s'.heap ∧ (∀ b ∈ fp, H' b = none) ∧ W i m H' := fun {s' H'} I' nx => by
      obtain ⟨m', lt, w'⟩ := hNx H' nx
      have held : ∀ b ∈ fp, ∀ o, s7.heap.get? b = some o → s'.heap.get? b = some o ∧ H' b = none := fun b hb o e =>
        let z := I'.pin (b, o) (List.mem_append_right _ (List.mem_append_right _ (mem_pinsAt hb e)))
        ⟨z.1, z.2.1⟩
      refine ⟨m', lt, i + 1, H', (I'.unpinned (pins := [])).weak (by rw [← ew, wipe_length]) (fun j v e => ?_), T.keep _ _ _ st7 fun b hb o e => (held b hb o e).1, fun b hb => ?_, w'⟩
      · rw [← ew] at e
        exact (wipe_some e).1
      · obtain ⟨o, e, _⟩ := T.obj _ _ st7 b hb
        exact (held b hb o e).2
    cases b with
    | false =>
      simp only [Bool.false_eq_true, if_false] at q9 ⊢
      exact next I9 q9
    | true =>
      simp only [if_true] at q9 ⊢
      refine thnF (pk.run _ s9 σ8 H9 _ I9 q9) fun kv s10 ⟨yk, H10, I10, rk, q10⟩ => thnF (pv.run _ s10 σ8 H10 _ I10 q10) fun vv s11 ⟨yv, H11, I11, rv, cp⟩ => ?_
      obtain ⟨Wd', S', ks, vs, k, v, ho, us, ws, B, ha, dq, r1, r2, fit, hl, rk', rv', go'⟩ := cp
      exact dctSetC (X := X.blk s3 H3 scope ce fp) hu I11 B ha dq r1 r2 fit hl rk' rk rv' rv fun ho' s12 sd od I12 => next I12 (go' ho' sd od)
end
end DL


/-! DL48: dict comprehensions over data -/
namespace DL
open PySem L2 PyProof.Rows

section
variable {X : Cx} {W0 W W1 : Wd} {S S1 : Sh} {σ : L2.St} {H H1 : Hp} {pos : Pos} {it : DN} {dt : DT} {tg : Tg} {dk dv : DE}
def loopDC (tg : Tg) (tt : DT) (ek ev : DE) (ρ : Env') : List D → List D → List D → Sh → Option ((List D × List D) × Sh)
  | [], ks, vs, S => some ((ks, vs), S)
  | d :: r, ks, vs, S => (bindT tg d).bind fun u => (tt (putD ρ u) S).bind fun p => if p.1 then (ek (putD ρ u) p.2).bind fun q => (ev (putD ρ u) q.2).bind fun v =>
      if keyFit ks q.1 = true ∧ ks.length < sizeLine then loopDC tg tt ek ev ρ r (dput ks vs q.1 v.1).1 (dput ks vs q.1 v.1).2 v.2 else none
    else loopDC tg tt ek ev ρ r ks vs p.2
def ndComp (it : DN) (tg : Tg) (sl : List Nat) (tt : DT) (ek ev : DE) : DND := fun ρ S => (it ρ S).bind fun p => loopDC tg tt ek ev (wipeD ρ sl) p.1 [] [] p.2
/-- the dict made so far -/
structure Made (W : Wd) (H : Hp) (c : Addr) (ks vs : List D) : Prop where
  at_ : ∃ ho us ws, H c = some ho ∧ DctO W.w c ho ks us ws ∧ Reps W ks us ∧ Reps W vs ws
  t : W.T c = none
  m : c ∉ W.m
theorem Made.step {c : Addr} {ks vs : List D} (h : Made W H c ks vs) (s : Stp W W1 H H1) : Made W1 H1 c ks vs := by
  obtain ⟨ho, us, ws, h1, h2, h3, h4⟩ := h.at_
  refine ⟨⟨ho, us, ws, s.keep c _ h1 h.m, by rw [s.le.we]; exact h2, h3.mono s.le, h4.mono s.le⟩, ?_, fun z => ?_⟩
  · cases q : W1.T c with
    | none => rfl
    | some o =>
      rcases s.newT c o q with z | z
      · rw [h.t] at z; cases z
      · rw [h1] at z; cases z
  · rcases s.new c z with z | z
    · exact h.m z
    · rw [h1] at z; cases z
theorem dcomp_of {K : Fr} {sl : List Nat} (hv : (tgSlots tg).all (fun i => sl.contains i) = true) {σ : L2.St} {H : Hp} {Q : VK} (h : liftND K (ndComp it tg sl dt dk dv) σ H Q) : tDcx K (liftI K it) (tgOf K tg) (liftT K dt) (liftE K dk) (liftE K dv) sl σ H Q := by
  obtain ⟨W, ρ, S, kf, vf, S', R, hd, k⟩ := h
  obtain ⟨⟨ds, S1⟩, e1, hd⟩ := bindS hd
  refine ⟨W, ρ, S, ds, S1, R, e1, fun W1 H1 J s1 R1 w D hD => ?_⟩
  have hD0 : H D = none := s1.back hD
  obtain ⟨BD, sD⟩ := R1.base.alloc (.dK []) hD
  obtain ⟨f1, f2⟩ := R1.base.free hD
  refine ⟨fun i m H' => m = ds.length - i ∧ i ≤ ds.length ∧ ∃ W' S2 ks vs, Stp W W' H H' ∧ Le W1 W' ∧ Base K W' S2 H' ∧ Made W' H' D ks vs ∧ loopDC tg dt dk dv (wipeD ρ sl) (ds.drop i) ks vs S2 = some ((kf, vf), S'),
    ⟨ds.length, by simp, Nat.zero_le _, W1, S1, [], [], s1.trans sD, .refl _, BD, ⟨⟨_, [], [], upd_same, .inl ⟨[], rfl, rfl, rfl, rfl⟩, rfl, rfl⟩, f1, f2⟩, by simpa using hd⟩, ?_⟩
  rintro i m H' ⟨rfl, hi', W', S2, ks, vs, s', l', B', md, hd'⟩
  obtain ⟨w1, w2⟩ := w i W' S2 H' l' B'
  by_cases hlt : i < ds.length
  · obtain ⟨g, y⟩ := w1 _ (List.getElem?_eq_getElem hlt)
    rw [List.drop_eq_getElem_cons hlt, loopDC] at hd'
    obtain ⟨u, h1, hd'⟩ := bindS hd'
    obtain ⟨⟨tb, S3⟩, h2, hd'⟩ := bindS hd'
    refine .inr ⟨g, fun H4 => ∃ W4 S4 ks4 vs4, Stp W W4 H H4 ∧ Le W1 W4 ∧ Base K W4 S4 H4 ∧ Made W4 H4 D ks4 vs4 ∧ loopDC tg dt dk dv (wipeD ρ sl) (ds.drop (i + 1)) ks4 vs4 S4 = some ((kf, vf), S'), fun H4 q => ⟨ds.length - (i + 1), by omega, rfl, hlt, q⟩, fun x H3 hy => ?_⟩
    obtain ⟨W3, s3, B3, r3⟩ := y x H3 hy
    have md3 := md.step s3
    refine tg_run B3 tg _ x _ u _ h1 r3 fun wv hw => ?_
    refine ⟨(wipe_put fun p hp => ?_).trans (wipe_wipe _ σ), ?_⟩
    · have : p.1 ∈ tgSlots tg := by
        rw [← bindT_slots tg _ u h1, ← hw.slots]
        exact List.mem_map_of_mem hp
      have := List.all_eq_true.mp hv _ this
      simpa using this
    have E3 : EnvR W3 (putD (wipeD ρ sl) u) (putV (wipe σ sl) wv) := EnvR.puts hw ((R1.env.mono (l'.trans s3.le)).wipes _)
    refine ⟨W3, _, S2, tb, S3, ⟨B3, E3⟩, h2, fun W4 H4 s4 R4 => ?_⟩
    have md4 := md3.step s4
    have st4 := (s'.trans s3).trans s4
    have l4 := (l'.trans s3.le).trans s4.le
    cases tb with
    | false =>
      dsimp only
      rw [if_neg Bool.false_ne_true]
      simp only [Bool.false_eq_true, if_false] at hd'
      exact ⟨W4, S3, ks, vs, st4, l4, R4.base, md4, hd'⟩
    | true =>
      dsimp only
      rw [if_pos rfl]
      simp only [if_true] at hd'
      obtain ⟨⟨y5, S5⟩, h5, hd'⟩ := bindS hd'
      obtain ⟨⟨y6, S6⟩, h6, hd'⟩ := bindS hd'
      simp only [Option.ite_none_right_eq_some] at hd'
      obtain ⟨⟨fit, hsz⟩, hd'⟩ := hd'
      refine ⟨W4, _, S3, y5, S5, R4, h5, fun W5 v5 H5 s5 R5 r5 => ⟨W5, _, S5, y6, S6, R5, h6, fun W6 v6 H6 s6 R6 r6 => ?_⟩⟩
      have md6 := (md4.step s5).step s6
      have st6 := (st4.trans s5).trans s6
      obtain ⟨ho, us, ws, g1, g2, g3, g4⟩ := md6.at_
      refine ⟨W6, S6, ks, vs, y5, y6, ho, us, ws, R6.base, g1, g2, g3, g4, fit, hsz, r5.mono s6.le, r6, fun ho' sd od => ?_⟩
      obtain ⟨us', ws', d1, d2, d3⟩ := sd
      refine ⟨W6, S6, _, _, ⟨st6.le, fun b o h n => ?_, st6.new, fun b o h => ?_, st6.newT⟩, (l4.trans s5.le).trans s6.le, R6.base.put md6.t md6.m (fun x ys z => by
        rw [g1] at z; cases z
        exact g2.own), ⟨⟨ho', us', ws', upd_same, d1, d2, d3⟩, md6.t, md6.m⟩, hd'⟩
      · have ne : b ≠ D := fun e => by rw [e, hD0] at h; cases h
        rw [upd_ne ne]
        exact st6.keep b o h n
      · have ne : b ≠ D := fun e => by rw [e, hD0] at h; cases h
        rw [upd_ne ne]
        exact st6.ex b o h
  · have e : i = ds.length := by omega
    subst e
    rw [List.drop_length, loopDC] at hd'
    cases hd'
    exact .inl ⟨w2 (by simp), k W' D H' s' ⟨B', R1.env.mono l'⟩ ⟨md.at_, md.t, md.m, hD0⟩⟩
theorem dnd_comp {kx vx tge iter : Expr} {ifs : List Expr} {scope : Scope} {own : List (Str × Nat)} (hu : X.A.units + 64 < cLine) (hc : X.calm = true) (hN : X.N.Nodup) (hi : PI' X tge iter it) (ok : BlkOk X.N X.env.scope scope own)
    (hg : ∀ (s : Shared) (H : Hp) (C : Addr) (cl : List (Str × Addr)) (fp : List Addr), PG (X.blk s H scope (compEnvC scope cl C X.env) fp) tge (tgOf X.KW tg)) (ht : ∀ (s : Shared) (H : Hp) (C : Addr) (cl : List (Str × Addr)) (fp : List Addr), PTs (X.blk s H scope (compEnvC scope cl C X.env) fp) ifs (liftT X.KW dt))
    (hk : ∀ (s : Shared) (H : Hp) (C : Addr) (cl : List (Str × Addr)) (fp : List Addr), PE' (X.blk s H scope (compEnvC scope cl C X.env) fp) kx dk) (he : ∀ (s : Shared) (H : Hp) (C : Addr) (cl : List (Str × Addr)) (fp : List Addr), PE' (X.blk s H scope (compEnvC scope cl C X.env) fp) vx dv)
    (hv : (tgSlots tg).all (fun i => (own.map (·.2)).contains i) = true := by rfl) (hs : ∀ x, foldedSetIterable iter X.env x = pure x := by intro _; rfl) :
    PND X (.DictComp kx vx [⟨tge, iter, ifs, 0⟩] scope pos) (ndComp it tg (own.map (·.2)) dt dk dv) := by
  refine ⟨fun pins s σ H Q I h => ?_⟩
  rw [arm_eval_DictComp]
  refine dcx_core hu hc hN I hi ok hg ht hk he hs (dcomp_of hv h) fun D C s' m H' I' q hn f => ⟨m, hn, fun h'' sb => ?_⟩
  obtain ⟨f0, f1, f2, f3, f4, f5⟩ := f
  exact ⟨.ref D, H', I'.turned (t' := s'.toks) (fun b o nb e => (sb.2 b nb).trans e) f0 f1 f3 f4 f5, rfl, q⟩
/-- name = {..} on one line -/
theorem asg_dcomp {i : Nat} {y : Str} {py spos : Pos} {kx vx tge iter : Expr} {ifs : List Expr} {scope : Scope} {own : List (Str × Nat)} (hu : X.A.units + 64 < cLine) (hc : X.calm = true) (hN : X.N.Nodup) (hy : X.N[i]? = some y) (hyl : X.env.scope.names.lookup y = some .local)
    (hsw : swapsWith (.DictComp kx vx [⟨tge, iter, ifs, 0⟩] scope pos) (some (.Name y py)) spos.line X.env = pure true) (hi : PI' X tge iter it) (ok : BlkOk X.N X.env.scope scope own)
    (hg : ∀ (s : Shared) (H : Hp) (C : Addr) (cl : List (Str × Addr)) (fp : List Addr), PG (X.blk s H scope (compEnvC scope cl C X.env) fp) tge (tgOf X.KW tg)) (ht : ∀ (s : Shared) (H : Hp) (C : Addr) (cl : List (Str × Addr)) (fp : List Addr), PTs (X.blk s H scope (compEnvC scope cl C X.env) fp) ifs (liftT X.KW dt))
    (hk : ∀ (s : Shared) (H : Hp) (C : Addr) (cl : List (Str × Addr)) (fp : List Addr), PE' (X.blk s H scope (compEnvC scope cl C X.env) fp) kx dk) (he : ∀ (s : Shared) (H : Hp) (C : Addr) (cl : List (Str × Addr)) (fp : List Addr), PE' (X.blk s H scope (compEnvC scope cl C X.env) fp) vx dv)
    (hv : (tgSlots tg).all (fun i => (own.map (·.2)).contains i) = true := by rfl) (hs : ∀ x, foldedSetIterable iter X.env x = pure x := by intro _; rfl) :
    PS X (.Assign [.Name y py] (.DictComp kx vx [⟨tge, iter, ifs, 0⟩] scope pos) spos) (tAsg (liftND X.KW (ndComp it tg (own.map (·.2)) dt dk dv)) (gName i)) := by
  refine ⟨fun pins s σ H D I h => ?_⟩
  rw [exec_Assign_Name_used _ _ _ _ hsw]
  refine wpAny_bind (wpAny_standAt (wpAny_bind ?_))
  show wpAny _ X.A (do let _ ← comprehension (.DictComp kx vx [⟨tge, iter, ifs, 0⟩] scope pos) scope X.env (firstIterPos [⟨tge, iter, ifs, 0⟩] pos) newDict false (eval iter X.env) (some (assign (.Name y py) X.env))) _ _ s
  have h' := dcomp_of (Q := fun x H1 => gName i x σ H1 D.nx) hv h
  refine wpAny_bind (thn (dcx_core (Qf := fun _ s' => SP X pins D .next s') hu hc hN I hi ok hg ht hk he hs h' fun L C s' m H' I' q hn f => ?_) fun _ s' hq => wpAny_pure (wpAny_pure hq))
  show wpAny _ _ (assign (.Name y py) X.env (.ref L)) _ _ _
  refine wpAny_assign_Name (store_ok2 (v := V.ref L) I' hN hy (.inl hyl) rfl (fun s2 I2 ⟨a, sb, ha⟩ => ?_) (.inr hyl))
  obtain ⟨f0, f1, f2, f3, f4, f5⟩ := f
  have ne : C ≠ a := by
    rcases ha with z | z
    · rw [z]; exact f1
    · exact fun e => f4 y a z e.symm
  exact ⟨m, hn.sameBut sb ne, fun h3 sb3 => ⟨_, H', I2.turned (t' := s2.toks) (fun b o nb e => (sb3.2 b nb).trans e) f0 f1 f3 f4 f5, q⟩⟩
/-- it swaps -/
theorem sw_dict {kx vx : Expr} {gs : List Comprehension} {scope : Scope} {pos py : Pos} {y : Str} {l : Nat} {env : Env} (hk : env.scope.kind = .function) (hy : env.scope.names.lookup y = some .local) (hl : (py.line == pos.line) = true)
    (ha : (scope.names.any fun (n, k) => n == y && (k == .local || k == .cell)) = false) : swapsWith (.DictComp kx vx gs scope pos) (some (.Name y py)) l env = pure true := by
  have ky : env.kindOf y = some .local := hy
  have hb : env.blockKind = .function := by unfold Env.blockKind; rw [hk]; rfl
  unfold swapsWith
  simp only [hb, ky, ha, Expr.pos, hl]
  rfl
end
end DL


/-! DL49: defs with shared lists of their own, the frame told by its parts -/
namespace DL
open PySem L2 PyProof.Rows
theorem Callee.dropK {P : Program} {w : World} {K : PySem.W.Frag} {mg : Str → Option Value} {base : Heap} {x : Str} {k : Nat} {ps : List Str} {np n : Nat} {body : DS} (h : Callee P w K mg base x k ps (spD ⟨K, w⟩ np (fnD np n body))) : Callee P w K mg base x k ps (spD ⟨K, w⟩ np (fnDd np n body)) :=
  Callee.drop (K := ⟨K, w⟩) h
end DL


/-! DL50: own.setdefault(k, []).append(x), own a dict of own lists -/
namespace DL
open PySem L2 PyProof.Rows
/-- the value at a key, by its place -/
def getV : List D → List V → D → Option V
  | k :: ks, w :: ws, j => if eqD k j = true then some w else getV ks ws j
  | _, _, _ => none
theorem leaf_getV (k : Key) : ∀ kvs : List (Key × V), getV (kvs.map fun p => keyD p.1) (kvs.map (·.2)) (keyD k) = valV kvs k
  | [] => rfl
  | p :: kvs => by
    rw [List.map_cons, List.map_cons, getV, keyD_eq]
    by_cases c : p.1 = k
    · rw [valV_pos c]; simp [c]
    · rw [valV_neg c, if_neg (by simp [c])]
      exact leaf_getV k kvs
theorem nd_getV {kd : D} {k : NestedKey} (hk : nkD kd = some k) : ∀ {xs : List (NestedKey × Addr × V)} {ys : List (NestedKey × Addr × Value)} {ks : List D}, Paired NdR xs ys → ks.map nkD = xs.map (fun x => some x.1) →
    (∃ p v, atKey ys k = some p ∧ getV ks (xs.map (·.2.2)) kd = some v ∧ RelV v p.2) ∨ (atKey ys k = none ∧ getV ks (xs.map (·.2.2)) kd = none ∧ ∀ x ∈ xs, ¬ x.1 = k)
  | _, _, ks, .nil, e => by
    have : ks = [] := by simpa using e
    subst this
    exact .inr ⟨rfl, rfl, by simp⟩
  | p :: xs, _, [], .cons _ _, e => by simp at e
  | p :: xs, _, j :: ks, @Paired.cons _ _ _ _ q _ ys ⟨e1, e2, e3⟩ t, e => by
    rw [List.map_cons, List.map_cons] at e
    injection e with e4 e5
    rw [at_cons, List.map_cons, getV, nk_eq j kd p.1 k e4 hk, ← e1]
    by_cases c : p.1 = k
    · rw [if_pos c, if_pos (by simp [c])]
      exact .inl ⟨_, _, rfl, rfl, e3⟩
    · rw [if_neg c, if_neg (by simp [c])]
      rcases nd_getV hk t e5 with h | ⟨h1, h2, h3⟩
      · exact .inl h
      · refine .inr ⟨h1, h2, fun x hx => ?_⟩
        rcases List.mem_cons.1 hx with rfl | hx
        · exact c
        · exact h3 x hx
theorem putN_new {k : NestedKey} {b : Addr} {x : V} : ∀ {xs : List (NestedKey × Addr × V)}, (∀ y ∈ xs, ¬ y.1 = k) → putN k b x xs = xs ++ [(k, b, x)]
  | [], _ => rfl
  | p :: xs, h => by rw [putN, if_neg (h p (by simp)), putN_new fun y hy => h y (by simp [hy])]; rfl
section
variable {X : Cx} {W : Wd} {S : Sh} {H : Hp} {pins : List (Addr × Obj)} {σ : L2.St} {s : Shared}
theorem dctSd {a : Addr} {ks : List D} {k : D} {y z : V} {u r : Value} {A : Around} {E : Value → Shared → Prop} {Q : Value → Shared → Prop} {ho : HO} {us ws : List V} (hu : A.units + 64 < cLine) (I : Inv X pins σ H s) (B : Base X.KW W S H) (ha : H a = some ho) (q : DctO W.w a ho ks us ws) (r1 : Reps W ks us)
    (fit : keyFit ks k = true) (hl : ks.length < sizeLine) (rk : Rep W k y) (ry : RelV y u) (rz : RelV z r) (h1 : ∀ v, getV ks ws k = some v → ∀ w' s', Inv X pins σ H s' → RelV v w' → Q w' s')
    (h2 : getV ks ws k = none → ∀ ho' s', DctO W.w a ho' (ks ++ [k]) (us ++ [y]) (ws ++ [z]) → Inv X pins σ (upd H a ho') s' → ∀ w', RelV z w' → Q w' s') :
    wpAny (model X.prog X.w) A (call (.builtin "dict.setdefault") [.ref a, u, r]) Q E s := by
  have hw : W.w = X.w := B.sa.1
  cases hf : famD k with
  | none => unfold keyFit at fit; rw [hf] at fit; cases fit
  | some fb =>
    cases fb with
    | true =>
      obtain ⟨k0, rfl⟩ := fam_leaf hf
      have hy : y = kV k0 := by cases k0 <;> exact rk
      subst hy
      have lf : leafB ks = true := by unfold keyFit at fit; rw [hf] at fit; exact fit
      obtain ⟨kvs, rfl, e3, e4, e5⟩ := leaf_of q r1 lf
      subst e3 e4 e5
      rw [leaf_getV] at h1 h2
      refine d_setd I ha ry rz (by simpa using hl) h1 fun hn w' s' I' rw' => ?_
      rw [putK_new z hn] at I'
      exact h2 hn _ s' (.inl ⟨kvs ++ [(k0, z)], rfl, by simp, by simp, by simp⟩) I' w' rw'
    | false =>
      obtain ⟨ds, k0, rfl, hk, hdep⟩ := fam_tup hf
      have hn := nk_is I B _ y u k0 hk rk ry
      obtain ⟨b, vs1, us1, rfl, rfl, _⟩ := B.isTup I rk ry
      obtain ⟨xs, ys, e, rfl, rfl, pr, dd, hz, hd⟩ := q.tups I B (.inl ha) r1 fit hf
      have hl' : xs.length < sizeLine := by have := congrArg List.length e; simp at this; omega
      have hnd : (ys.map (·.1)).Nodup := by obtain ⟨_, _, _, _, _, _, _, _, hn⟩ := dd; exact hn
      refine call_setdefault_heap (knd := nestedKind X.prog X.w) (nroom hu) ⟨hn, hdep⟩ hd dd (fun p hp => ?_) (fun hnone h' dd' hs => ?_) hz
      · rcases nd_getV hk pr e with ⟨p', v, g1, g2, g3⟩ | ⟨g1, _, _⟩
        · rw [hp] at g1; cases g1
          exact h1 v g2 _ _ (I.tok _) g3
        · rw [hp] at g1; cases g1
      · rcases nd_getV hk pr e with ⟨p', v, g1, g2, g3⟩ | ⟨g1, g2, g3⟩
        · rw [hnone] at g1; cases g1
        · have he : ∃ q, h'.get? a = some q := let ⟨q, _, _, hq, _⟩ := dd'; ⟨q, hq⟩
          refine h2 g2 (ndO W.w a (putN k0 b z xs)) _ (.inr ⟨_, putN_ne _ _ _ _, rfl, ?_, ?_, ?_⟩) (d_write I (by rw [ha]; exact ownO_mut q.own) hs he (nd_ok dd' (tup_put rz pr hnd) ?_ hd _ hw)) _ rz
          · rw [putN_new g3]; simp [e, hk]
          · rw [putN_new g3]; simp
          · rw [putN_new g3]; simp
          · have := putN_len k0 b z xs
            omega
/-- a.setdefault(y, z), a a dict known by its keys' data -/
def tSdX (X : Cx) (to tk tz : TE) : TE := fun σ H Q => to σ H fun x H1 => ∃ a, x = .ref a ∧ (∃ W ho ks us ws, H1 a = some ho ∧ DctO W a ho ks us ws) ∧ tk σ H1 fun y H2 => tz σ H2 fun z H3 => ∃ W S kd ho ks us ws, Base X.KW W S H3 ∧ H3 a = some ho ∧ DctO W.w a ho ks us ws ∧ Reps W ks us ∧ keyFit ks kd = true ∧ ks.length < sizeLine ∧ Rep W kd y ∧
  (∀ v, getV ks ws kd = some v → Q v H3) ∧ (getV ks ws kd = none → ∀ ho', DctO W.w a ho' (ks ++ [kd]) (us ++ [y]) (ws ++ [z]) → Q z (upd H3 a ho'))
theorem pe_sdX {o e f : Expr} {to tk tz : TE} {apos pos : Pos} (hu : X.A.units + 64 < cLine) (ho : PE X o to) (he : PE X e tk) (hf : PE X f tz) (m : M2 X o "setdefault" apos e f pos) : PE X (.Call (.Attribute o "setdefault" apos) [e, f] [] pos) (tSdX X to tk tz) := by
  refine ⟨fun pins s σ H Q I h => ?_⟩
  refine wpAny_Call_method m.base m.few m.line PySem.F.plainAttrs_dict PySem.F.slot_dict_setdefault PySem.F.type_dict_setdefault (thn (ho.run pins s σ H _ I h) fun u s1 ⟨x, H1, I1, rx, a, ex, ⟨W, ho, ks, us, ws, d1, d2⟩, q1⟩ => ?_)
  subst ex
  obtain rfl : u = Value.ref a := rx
  obtain ⟨_, _, ob, es, ep, p1, p2, _⟩ := d2.raw I1 (.inl d1)
  refine ⟨⟨ob, p1, p2.1⟩, fun b' hb' => by cases hb'; exact ⟨ob, p1, p2.2.1⟩, ?_⟩
  rw [m.trees]
  refine Calls.callWith_builtin rfl (Calls.evalArgs_plain (Calls.spliced_cons (thn (he.run pins s1 σ H1 _ I1 q1) fun iv s2 ⟨y, H2, I2, ry, q2⟩ =>
    Calls.spliced_cons (thn (hf.run pins s2 σ H2 _ I2 q2) fun fv s3 ⟨z, H3, I3, rz, W3, S3, kd, ho3, ks3, us3, ws3, B3, a1, a2, a3, a4, a5, a6, q3, q4⟩ => Calls.spliced_nil ?_))))
  exact dctSd hu I3 B3 a1 a2 a3 a4 a5 a6 ry rz (fun v hv w' s4 I4 rw' => ⟨v, _, I4, rw', q3 v hv⟩) fun hn ho' s4 d4 I4 w' rw' => ⟨z, _, I4, rw', q4 hn ho' d4⟩
end
/-! the statement -/
def gput : List D → List (List D) → D → D → List D × List (List D)
  | j :: ks, ds :: vss, k, d => if eqD j k = true then (j :: ks, (ds ++ [d]) :: vss) else (j :: (gput ks vss k d).1, ds :: (gput ks vss k d).2)
  | _, _, k, d => ([k], [[d]])
def sSdApp (i n : Nat) (dk : DE) : DS := fun ρ S => (dk (fzE [] 0 ρ) S).bind fun p => match ρ[i]?, ρ[n]? with
  | some (.owx (.g ks vss)), some (.val d) => if keyFit ks p.1 = true ∧ ks.length < sizeLine ∧ (vss.all fun ds => decide (ds.length < sizeLine)) = true then some (.nx (ρ.set i (.owx (.g (gput ks vss p.1 d).1 (gput ks vss p.1 d).2))) p.2) else none
  | _, _ => none
/-- where the key is -/
theorem gput_old {k d : D} {v : V} : ∀ {ks : List D} {vss : List (List D)} {ws : List V}, ks.length = ws.length → vss.length = ws.length → getV ks ws k = some v → ∃ (j : Nat) (ds : List D), ws[j]? = some v ∧ vss[j]? = some ds ∧ (gput ks vss k d).1 = ks ∧ (gput ks vss k d).2 = vss.set j (ds ++ [d])
  | [], _, _, _, _, h => by simp [getV] at h
  | j :: ks, vss, [], h1, _, _ => by simp at h1
  | j :: ks, [], w :: ws, _, h2, _ => by simp at h2
  | j :: ks, ds :: vss, w :: ws, h1, h2, h => by
    rw [getV] at h
    rw [gput]
    by_cases c : eqD j k = true
    · rw [if_pos c] at h ⊢
      cases h
      exact ⟨0, ds, rfl, rfl, rfl, rfl⟩
    · rw [if_neg c] at h ⊢
      obtain ⟨i, es, g1, g2, g3, g4⟩ := gput_old (by simpa using h1) (by simpa using h2) h
      exact ⟨i + 1, es, by simpa using g1, by simpa using g2, by rw [g3], by rw [g4]; rfl⟩
theorem gput_new {k d : D} : ∀ {ks : List D} {vss : List (List D)} {ws : List V}, ks.length = ws.length → vss.length = ws.length → getV ks ws k = none → (gput ks vss k d).1 = ks ++ [k] ∧ (gput ks vss k d).2 = vss ++ [[d]]
  | [], [], _, _, _, _ => ⟨rfl, rfl⟩
  | [], _ :: _, [], _, h, _ => by simp at h
  | [], _, _ :: _, h, _, _ => by simp at h
  | j :: ks, vss, [], h1, _, _ => by simp at h1
  | j :: ks, [], w :: ws, _, h2, _ => by simp at h2
  | j :: ks, ds :: vss, w :: ws, h1, h2, h => by
    rw [getV] at h
    rw [gput]
    by_cases c : eqD j k = true
    · rw [if_pos c] at h; cases h
    · rw [if_neg c] at h ⊢
      obtain ⟨g1, g2⟩ := gput_new (by simpa using h1) (by simpa using h2) h
      exact ⟨by rw [g1]; rfl, by rw [g2]; rfl⟩
theorem DctO.len {w : World} {a : Addr} {ho : HO} {ks : List D} {us ws : List V} (q : DctO w a ho ks us ws) : ks.length = ws.length := by
  rcases q with ⟨kvs, _, rfl, _, rfl⟩ | ⟨xs, _, _, e, _, rfl⟩
  · simp
  · have := congrArg List.length e
    simpa using this
section
variable {X : Cx} {W0 W W1 : Wd} {ρ : Env2} {S S1 : Sh} {σ : L2.St} {H H1 : Hp} {o e en : Expr} {dk : DE} {pos : Pos}
theorem dps_sdApp [XW] {i n : Nat} {ap1 cp1 ap2 cp2 lp : Pos} (hu : X.A.units + 64 < cLine) (ho : PE X o (tVar i)) (hk : PE' X e dk) (hn : PE X en (tVar n)) (m : M2 X o "setdefault" ap1 e (.List [] lp) cp1)
    (hbase : attributeBase (.Call (.Attribute o "setdefault" ap1) [e, .List [] lp] [] cp1) "append" X.env (eval (.Call (.Attribute o "setdefault" ap1) [e, .List [] lp] [] cp1) X.env) = eval (.Call (.Attribute o "setdefault" ap1) [e, .List [] lp] [] cp1) X.env := by rfl)
    (hfew : ((backTo cp2 (starEach [en] X.env)).all (fun x => !x.1) && (backToKw cp2 (keywordEach [] X.env)).all (fun x => x.1.isSome)
      && decide ([en].length + ([] : List Keyword).length + (if ([] : List Keyword).isEmpty then 0 else 1) < 30)) = true := by rfl)
    (hline : (ap2.endLine == cp2.line) = true := by rfl) (hst : starEach [en] X.env = (false, eval en X.env) :: starEach [] X.env := by rfl) (hplain : (backTo cp2 (starEach [] X.env)).any (·.1) = false := by rfl)
    (hs : swapsWith (.Call (.Attribute (.Call (.Attribute o "setdefault" ap1) [e, .List [] lp] [] cp1) "append" ap2) [en] [] cp2) none pos.line X.env = pure false := by rfl) :
    PS' X (.Expr (.Call (.Attribute (.Call (.Attribute o "setdefault" ap1) [e, .List [] lp] [] cp1) "append" ap2) [en] [] cp2) pos) (sSdApp i n dk) :=
  PS.imp (ps_expr (pe_bm PySem.F.plainAttrs_list PySem.F.slot_list_append PySem.F.type_list_append mt_append (pe_sdX hu ho hk (pe_lst pa_nil) m) (pa_cons hn pa_nil hst) hbase hfew hline hst hplain) hs) fun D σ H => by
  rintro ⟨W0, W, ρ, S, out, R, h, k⟩
  obtain ⟨⟨kd, S1⟩, e1, h⟩ := bindS h
  split at h
  · rename_i ks vss d q qn
    simp only [Option.ite_none_right_eq_some, Option.some.injEq] at h
    obtain ⟨⟨f1, f2, f3⟩, rfl⟩ := h
    obtain ⟨F, O⟩ := R.ownF
    obtain ⟨_, g1, a, ho0, us0, ws0, rfl, g2, g3, g4, g5, g6⟩ := O.at_ i _ q
    refine ⟨_, g1, a, rfl, ⟨W.w, ho0, ks, us0, ws0, g2, g3⟩, evP (keep := []) R e1 rfl fun W1 y H1 l1 R1 r1 => ?_⟩
    have r1 := r1 (.inr rfl)
    refine ⟨Nat.zero_le _, fun p hp => ?_⟩
    obtain ⟨B', s'⟩ := R1.base.alloc (.lst []) hp
    obtain ⟨F1, O1⟩ := R1.ownF
    obtain ⟨_, g1', a', ho1, us1, ws1, rfl, g2', g3', g4', g5', g6'⟩ := O1.at_ i _ q
    rw [g1] at g1'
    cases g1'
    have nap : a ≠ p := fun z => by rw [z, hp] at g2'; cases g2'
    obtain ⟨v, hv, rv⟩ := R1.val n d qn
    obtain ⟨kn, ka, kl, kk⟩ := g5'
    have lk := g3'.len
    refine ⟨W1, S1, kd, ho1, ks, us1, ws1, B', by rw [upd_ne nap]; exact g2', g3', g4', f1, f2, r1, fun x hx => ?_, fun hx ho' d' => ?_⟩
    · obtain ⟨j, ds, j1, j2, j3, j4⟩ := gput_old (d := d) lk kl hx
      obtain ⟨b, ub, b1, b2, b3, b4⟩ := kk j ds j2
      rw [j1] at b1
      cases b1
      have nbp : b ≠ p := fun z => by rw [z, hp] at b2; cases b2
      have nba : b ≠ a := fun z => ka (by rw [← z]; exact List.mem_of_getElem? j1)
      have hb2 : (L2.upd H1 p (.lst [])) b = some (.lst ub) := by rw [upd_ne nbp]; exact b2
      refine ⟨.inl ⟨rfl, _, SqL.of hb2⟩, v, hv, b, ub, v, rfl, rfl, hb2, ?_, ?_⟩
      · have := List.all_eq_true.1 f3 ds (List.mem_of_getElem? j2)
        rw [decide_eq_true_eq] at this
        have := b3.length
        omega
      · refine k W1 σ _ l1 ?_
        rw [j3, j4]
        have jl : j < ws1.length := (List.getElem?_eq_some_iff.mp j1).1
        refine R1.mut O1 i (s := .owx (.g ks (vss.set j (ds ++ [d])))) (f := F1 i) (fun _ z => nomatch z) (fun c hc => ?_) (fun c oc hc => ?_) ⟨_, g1, a, ho1, us1, ws1, rfl, ?_, g3', g4', ⟨kn, ka, by simp [kl], fun i' ds' h' => ?_⟩, g6'⟩ fun c hc => ⟨.inl hc, ?_⟩
        · by_cases c1 : c = b
          · subst c1; exact .inl b4
          · by_cases c2 : c = p
            · subst c2; exact .inr hp
            · exact absurd (by rw [upd_ne c1, upd_ne c2]) hc
        · by_cases c1 : c = b
          · subst c1; exact ⟨_, upd_same⟩
          · have c2 : c ≠ p := fun z => by rw [z, hp] at hc; cases hc
            exact ⟨oc, by rw [upd_ne c1, upd_ne c2]; exact hc⟩
        · rw [upd_ne (Ne.symm nba), upd_ne nap]; exact g2'
        · by_cases c1 : j = i'
          · subst c1
            rw [List.getElem?_set_self (by omega)] at h'
            cases h'
            exact ⟨b, ub ++ [v], j1, upd_same, b3.append (Reps.one rv), b4⟩
          · rw [List.getElem?_set_ne c1] at h'
            obtain ⟨b', us', k1, k2, k3, k4⟩ := kk i' ds' h'
            have nb : b' ≠ b := fun z => by
              subst z
              exact c1 ((List.getElem?_inj jl kn).1 (j1.trans k1.symm))
            have nb2 : b' ≠ p := fun z => by rw [z, hp] at k2; cases k2
            exact ⟨b', us', k1, by rw [upd_ne nb, upd_ne nb2]; exact k2, k3, k4⟩
        · obtain ⟨_, _, _, oc, o1, o2⟩ := O1.low i c hc
          by_cases c1 : c = b
          · subst c1; exact ⟨_, upd_same, trivial⟩
          · have c2 : c ≠ p := fun z => by rw [z, hp] at o1; cases o1
            exact ⟨oc, by rw [upd_ne c1, upd_ne c2]; exact o1, o2⟩
    · obtain ⟨j3, j4⟩ := gput_new (d := d) lk kl hx
      have hpp : (L2.upd (L2.upd H1 p (.lst [])) a ho') p = some (.lst []) := by rw [upd_ne (Ne.symm nap), upd_same]
      have kid : ∀ x ∈ ws1, x ≠ V.ref p := fun x hx' z => by
        obtain ⟨t, ht⟩ := List.getElem?_of_mem hx'
        have tl : t < ws1.length := (List.getElem?_eq_some_iff.mp ht).1
        obtain ⟨b', us', k1, k2, _⟩ := kk t vss[t] (List.getElem?_eq_getElem (by omega))
        rw [ht, z] at k1
        cases k1
        rw [hp] at k2
        cases k2
      refine ⟨.inl ⟨rfl, _, SqL.of hpp⟩, v, hv, p, [], v, rfl, rfl, hpp, by decide, ?_⟩
      refine k W1 σ _ l1 ?_
      rw [j3, j4]
      refine R1.mut O1 i (s := .owx (.g (ks ++ [kd]) (vss ++ [[d]]))) (f := fun c => F1 i c ∨ c = p) (fun _ z => nomatch z) (fun c hc => ?_) (fun c oc hc => ?_) ⟨_, g1, a, ho', us1 ++ [y], ws1 ++ [.ref p], rfl, ?_, d', g4'.append (Reps.one r1), ⟨?_, ?_, by simp [kl], fun i' ds' h' => ?_⟩, .inl g6'⟩ fun c hc => ?_
      · by_cases c2 : c = p
        · subst c2; exact .inr hp
        · by_cases c1 : c = a
          · subst c1; exact .inl g6'
          · exact absurd (by rw [upd_ne c2, upd_ne c1, upd_ne c2]) hc
      · have c2 : c ≠ p := fun z => by rw [z, hp] at hc; cases hc
        by_cases c1 : c = a
        · subst c1; exact ⟨ho', by rw [upd_ne c2, upd_same]⟩
        · exact ⟨oc, by rw [upd_ne c2, upd_ne c1, upd_ne c2]; exact hc⟩
      · rw [upd_ne nap, upd_same]
      · rw [List.nodup_append]
        refine ⟨kn, by simp, fun x hx' w hw z => ?_⟩
        rw [List.mem_singleton] at hw
        exact kid x hx' (z.trans hw)
      · intro z
        rcases List.mem_append.1 z with z | z
        · exact ka z
        · rw [List.mem_singleton] at z
          exact nap (V.ref.inj z)
      · by_cases c1 : i' < vss.length
        · rw [List.getElem?_append_left c1] at h'
          obtain ⟨b', us', k1, k2, k3, k4⟩ := kk i' ds' h'
          have nb2 : b' ≠ p := fun z => by rw [z, hp] at k2; cases k2
          have nb1 : b' ≠ a := fun z => ka (by rw [← z]; exact List.mem_of_getElem? k1)
          exact ⟨b', us', by rw [List.getElem?_append_left (by omega)]; exact k1, by rw [upd_ne nb2, upd_ne nb1, upd_ne nb2]; exact k2, k3, .inl k4⟩
        · rw [List.getElem?_append_right (by omega)] at h'
          have e0 : i' - vss.length = 0 := by
            cases t : i' - vss.length with
            | zero => rfl
            | succ m => rw [t] at h'; simp at h'
          rw [e0] at h'
          cases h'
          refine ⟨p, [v], ?_, upd_same, Reps.one rv, .inr rfl⟩
          rw [List.getElem?_append_right (by omega), ← kl, e0]
          rfl
      · rcases hc with hc | rfl
        · refine ⟨.inl hc, ?_⟩
          obtain ⟨_, _, _, oc, o1, o2⟩ := O1.low i c hc
          have c2 : c ≠ p := fun z => by rw [z, hp] at o1; cases o1
          by_cases c1 : c = a
          · subst c1; exact ⟨ho', by rw [upd_ne c2, upd_same], d'.own⟩
          · exact ⟨oc, by rw [upd_ne c2, upd_ne c1, upd_ne c2]; exact o1, o2⟩
        · exact ⟨.inr hp, _, upd_same, trivial⟩
  · cases h
end
end DL


/-! DL51: {k: v}, one pair -/
namespace DL
open PySem L2 PyProof.Rows
/-- a display of one pair; the new dict stands empty while the pair is made -/
def tDisp1 (X : Cx) (tk tv : TE) : TE := fun σ H Q => ∀ p, H p = none → tk σ (upd H p (.dK [])) fun x H1 => tv σ H1 fun y H2 => ∃ W S kd vd, Base X.KW W S H2 ∧ H2 p = some (.dK []) ∧ Rep W kd x ∧ Rep W vd y ∧ keyFit [] kd = true ∧ ∀ ho', Stored W H2 p [kd] [vd] ho' → ownO ho' → Q (.ref p) (upd H2 p ho')
section
variable {X : Cx} {ke ve : Expr} {tk tv : TE} {pos : Pos}
theorem pe_disp1 (hu : X.A.units + 64 < cLine) (hk : PE X ke tk) (hv : PE X ve tv) : PE X (.Dict [some ke] [ve] pos) (tDisp1 X tk tv) := by
  refine ⟨fun pins s σ H Q I q => ?_⟩
  have hn := I.hok.fresh (Nat.le_refl s.heap.objs.size)
  have I1 := I.laid (a := s.heap.objs.size) (o := .dK []) (h' := s.heap.push { cls := .type "dict", data := .dict #[] }) (t' := s.toks) (fun _ _ q => Heap.get?_push_of_some _ q) (Nat.le_refl _) (dk_empty s.heap I.big)
  rw [arm_eval_Dict, zip_pairTrees [some ke] [ve] X.env pos rfl rfl, dictDisplay_pairs (pairTrees [some ke] [ve] X.env pos) (by simp [pairTrees]) (by simp [pairTrees])]
  refine wpAny_bind (wpAny_standAt (wpAny_bind ?_))
  unfold subDict
  refine wpAny_bind (wpAny_alloc ?_)
  refine wpAny_bind (wpAny_holding ?_)
  rw [if_pos (by simp [pairTrees])]
  refine wpAny_bind (pairTrees_cons_walk (thn (hk.run pins _ σ _ _ I1 (q _ hn)) fun u s1 ⟨x, H1, I2, rx, q1⟩ => thn (hv.run pins s1 σ H1 _ I2 q1) fun w2 s2 ⟨y, H2, I3, ry, W, S, kd, vd, B, hp, r1, r2, fit, k⟩ => pairTrees_nil_walk ?_))
  refine wpAny_holding ?_
  refine wpAny_bind ?_
  rw [List.forIn_cons]
  refine wpAny_bind (wpAny_bind (dctSetC hu I3 B hp (.inl ⟨[], rfl, rfl, rfl, rfl⟩) (ks := []) (vs := []) rfl rfl fit (by decide) r1 rx r2 ry fun ho' s' st ow I4 => wpAny_pure ?_))
  dsimp only
  rw [List.forIn_nil]
  exact wpAny_pure (wpAny_pure (wpAny_pure (wpAny_pure ⟨.ref _, _, I4, rfl, k ho' st ow⟩)))
def ndOne (dk dv : DE) : DND := fun ρ S => (dk ρ S).bind fun p => (dv ρ p.2).bind fun q => if keyFit [] p.1 = true then some (([p.1], [q.1]), q.2) else none
end
section
variable {X : Cx} {ke ve : Expr} {dk dv : DE} {pos : Pos}
theorem dnd_one (hu : X.A.units + 64 < cLine) (hk : PE' X ke dk) (hv : PE' X ve dv) : PND X (.Dict [some ke] [ve] pos) (ndOne dk dv) := PE.imp (pe_disp1 hu hk hv) fun σ H Q => by
  rintro ⟨W, ρ, S, ks, vs, S', R, hd, k⟩ p hp
  obtain ⟨⟨kd, S1⟩, e1, hd⟩ := bindS hd
  obtain ⟨⟨vd, S2⟩, e2, hd⟩ := bindS hd
  simp only [Option.ite_none_right_eq_some] at hd
  obtain ⟨fit, hd⟩ := hd
  cases hd
  obtain ⟨B', s'⟩ := R.base.alloc (.dK []) hp
  obtain ⟨t0, m0⟩ := R.base.free hp
  refine ⟨W, ρ, S, kd, S1, ⟨B', R.env⟩, e1, fun W1 x H1 s1 R1 r1 => ⟨W1, ρ, S1, vd, S', R1, e2, fun W2 y H2 s2 R2 r2 => ?_⟩⟩
  have st := s1.trans s2
  have hp2 : H2 p = some (.dK []) := st.keep p _ upd_same m0
  have t2 : W2.T p = none := by
    cases q : W2.T p with
    | none => rfl
    | some o =>
      rcases st.newT p o q with z | z
      · rw [t0] at z; cases z
      · rw [upd_same] at z; cases z
  have m2 : p ∉ W2.m := fun h => by
    rcases st.new p h with z | z
    · exact m0 z
    · rw [upd_same] at z; cases z
  have ne : ∀ b o, H b = some o → b ≠ p := fun b o h e => by rw [e, hp] at h; cases h
  have full := s'.trans st
  refine ⟨W2, S', kd, vd, R2.base, hp2, r1.mono s2.le, r2, fit, fun ho' so ow => ?_⟩
  obtain ⟨us, ws, d1, d2, d3⟩ := so
  refine k W2 p _ ⟨full.le, fun b o h n => ?_, full.new, fun b o h => ?_, full.newT⟩ ⟨R2.base.put t2 m2 fun x ys z => ?_, R2.env⟩ ⟨⟨ho', us, ws, upd_same, d1, d2, d3⟩, t2, m2, hp⟩
  · rw [upd_ne (ne b o h)]
    exact full.keep b o h n
  · rw [upd_ne (ne b o h)]
    exact full.ex b o h
  · rw [hp2] at z; cases z
end
end DL


/-! DL52: defs that raise, raise X('..'), try .. except X (as e) -/
namespace DL
open PySem L2 PyProof.Rows

/-- a value, or an exception -/
inductive Rz where
  | ok (d : D) | ex (c : Ec)
abbrev DX := Env' → Sh → Option (Rz × Sh)
abbrev DXF := List D → Sh → Option (Rz × Sh)
abbrev DXA := Env' → Sh → Option ((Ec ⊕ List D) × Sh)
def outX : Out → Option (Rz × Sh)
  | .rt d S => some (.ok d, S)
  | .nx _ S => some (.ok .non, S)
  | .ro l S => some (.ok (.lst l), S)
  | .ex c _ S => some (.ex c, S)
  | _ => none
def fnX (np n : Nat) (body : DS) : DXF := fun args S => if args.length = np then (body (envOf n args) S).bind outX else none
def spX (K : Fr) (mg : Str → Option Value) (np : Nat) (m : DXF) : Sp := fun vs H Q E => ∃ W S ds r S', Base K W S H ∧ Reps W ds vs ∧ ds.length = np ∧ m ds S = some (r, S') ∧ match r with
  | .ok d => ∀ W' v H', Stp W W' H H' → Base K W' S' H' → Rep W' d v → Q v H'
  | .ex c => ∀ W' cls dd H', Stp W W' H H' → Base K W' S' H' → RepX mg W' c cls dd H' → E cls dd H'
theorem spX_len {K : Fr} {mg : Str → Option Value} {np : Nat} {m : DXF} {vs : List V} {H : Hp} {Q : VK} {E : XK} (h : spX K mg np m vs H Q E) : vs.length = np := by
  obtain ⟨W, S, ds, r, S', B, q, l, _⟩ := h
  rw [q.length, l]
section
variable {P : Program} {w : World} {K : PySem.W.Frag} {mg : Str → Option Value} {base : Heap} {x qual : Str} {params : Arguments} {body : List Stmt} {scope : Scope} {f : Addr} {fd : FuncData}
abbrev BodyX (P : Program) (w : World) (K : PySem.W.Frag) (mg : Str → Option Value) (base : Heap) (N : List Str) (qual : Str) (scope : Scope) (body : List Stmt) (f : Addr) (k : Nat) (ds : DS) : Prop :=
  ∀ [XW] (cdv : Value) (A : Around) (outer : List Env) (s : Shared) (H : Hp) (E : XK), Room k (A.deeper (envOfC qual scope s.heap.objs.size f cdv)) →
    Takes (cxOf (L2.CX P w) P w K mg base N qual scope f cdv A outer s H E) XW.W →
    PassesOwn (model P w) (cxOf (L2.CX P w) P w K mg base N qual scope f cdv A outer s H E).A (cxOf (L2.CX P w) P w K mg base N qual scope f cdv A outer s H E).env (cxOf (L2.CX P w) P w K mg base N qual scope f cdv A outer s H E).xe →
    PSs' (cxOf (L2.CX P w) P w K mg base N qual scope f cdv A outer s H E) body ds
theorem FunD.okX {N ps : List Str} {k : Nat} (F : FunD K x qual params body scope [] [] f fd) (S : FnScope N ps scope) (hl : ps.length ≤ N.length) {ds : DS} (hb : BodyX P w K mg base N qual scope body f k ds) :
    FnOk P w K mg base (L2.CX P w) (k + 1) f fd ps (spX ⟨K, w⟩ mg ps.length (fnX ps.length N.length ds)) :=
  F.ok S (fun vs H Q E h => spX_len h) fun cdv A outer s H vs Q E hr h => ⟨_, @hb ⟨fun cls d _ H => E cls d H⟩ cdv A outer s H E hr (takes_of rfl rfl rfl rfl) (passes_of rfl), by
    obtain ⟨W, S1, as, r, S', B, q, l, e, k1⟩ := h
    unfold fnX at e
    rw [if_pos l] at e
    obtain ⟨o, e1, e2⟩ := bindS e
    refine ⟨W, W, _, S1, o, rel_start (X := (cxOf (L2.CX P w) P w K mg base N qual scope f cdv A outer s H E)) B q rfl (by omega), e1, ?_⟩
    cases o with
    | rt d S2 =>
      cases e2
      exact fun W' v H' s' B' r' => k1 W' v H' s' B' r'
    | nx ρ S2 =>
      cases e2
      exact fun W' σ' H' l' R' => k1 W' .non H' R'.ent R'.base rfl
    | ro xs S2 =>
      cases e2
      intro W' a vs' H' s' B' ha ra ta ma h0
      obtain ⟨B2, l2⟩ := B'.know ha ta ma
      refine k1 _ (.ref a) H' ⟨s'.le.trans l2, s'.keep, s'.new, s'.ex, fun b o h => ?_⟩ B2 ⟨a, vs', rfl, if_pos rfl, ra.mono l2⟩
      have h' : (if b = a then some (HO.lst vs') else W'.T b) = some o := h
      by_cases e : b = a
      · exact .inr (by rw [e]; exact h0)
      · rw [if_neg e] at h'
        exact s'.newT b o h'
    | bk ρ S2 => cases e2
    | ct ρ S2 => cases e2
    | ex c ρ S2 =>
      cases e2
      exact fun W' σ' H' cls dd l' R' r' => k1 W' cls dd H' R'.ent R'.base r'⟩
structure CalleeX (P : Program) (w : World) (K : PySem.W.Frag) (mg : Str → Option Value) (base : Heap) (x : Str) (k : Nat) (ps : List Str) (sp : Sp) : Prop where
  ex : ∃ f fd, FnOk P w K mg base (L2.CX P w) k f fd ps sp ∧ mg x = some (.ref f) ∧ PySem.W.keepIn K (.ref f) = true ∧ Binds K fd ps []
theorem Stand.okX {st : Stmt} {ps N : List Str} {k : Nat} {np n : Nat} (F : Stand K mg x st ps) (S : FnScope N ps (defScope st)) {ds : DS} (hb : ∀ f, BodyX P w K mg base N x (defScope st) (defBody st) f k ds) (hl : ps.length ≤ N.length := by decide) (h1 : ps.length = np := by rfl) (h2 : N.length = n := by rfl) :
    CalleeX P w K mg base x (k + 1) ps (spX ⟨K, w⟩ mg np (fnX np n ds)) := by
  subst h1
  subst h2
  obtain ⟨f, fd, h1, h2, h3⟩ := F.ex
  exact ⟨f, fd, DL.FunD.okX h1 S hl (hb f), h2, h1.kp, h3⟩
end
/-! ### expressions that may raise -/
section
variable [XW] {X : Cx} {W0 W W1 : Wd} {ρ : Env2} {S S1 : Sh} {σ : L2.St} {H H1 : Hp}
def liftX (X : Cx) (d : DX) : TE := fun σ H Q => ∃ W ρ S r S', Rel X.KW W ρ S σ H ∧ d ρ S = some (r, S') ∧ match r with
  | .ok r => ∀ W' v H', Stp W W' H H' → Rel X.KW W' ρ S' σ H' → Rep W' r v → Q v H'
  | .ex c => ∀ W' cls dd H', Stp W W' H H' → Rel X.KW W' ρ S' σ H' → RepX X.mg W' c cls dd H' → XW.W cls dd σ H'
def liftXA (X : Cx) (d : DXA) : TA := fun σ H Q => ∃ W ρ S r S', Rel X.KW W ρ S σ H ∧ d ρ S = some (r, S') ∧ match r with
  | .inr r => ∀ W' vs H', Stp W W' H H' → Rel X.KW W' ρ S' σ H' → Reps W' r vs → Q vs H'
  | .inl c => ∀ W' cls dd H', Stp W W' H H' → Rel X.KW W' ρ S' σ H' → RepX X.mg W' c cls dd H' → XW.W cls dd σ H'
abbrev PX (X : Cx) (e : Expr) (d : DX) : Prop := PE X e (liftX X d)
abbrev PXA (X : Cx) (es : List Expr) (d : DXA) : Prop := PA X es (liftXA X d)
def xFn (np : Nat) (m : DXF) (dl : DA) : DX := fun ρ S => (dl ρ S).bind fun p => if p.1.length = np then m p.1 p.2 else none
def xD (d : DE) : DX := fun ρ S => (d ρ S).map fun p => (.ok p.1, p.2)
variable {e a b : Expr} {es : List Expr} {dl : DA} {pos : Pos} {k j : Nat} {f : Addr} {fd : FuncData} {ps : List Str} {np : Nat} {m : DXF} {da : DE} {dx : DX} {dxa : DXA}
theorem dxe_cl {x : Str} {p : Pos} (F : CalleeX X.prog X.w X.K X.mg X.base x j ps (spX X.KW X.mg np m)) (tk : Takes X XW.W) (hr : Room k X.A) (ha : PA' X (e :: es) dl) (hj : j ≤ k := by first | decide | omega) (hg : Gl X x := by rfl)
    (hdb : (x == ("__debug__" : Str)) = false := by decide) (he : starEach (e :: es) X.env = (false, eval e X.env) :: starEach es X.env := by rfl) (hpl : (backTo pos (starEach es X.env)).any (·.1) = false := by rfl) :
    PX X (.Call (.Name x p) (e :: es) [] pos) (xFn np m dl) := by
  obtain ⟨f, fd, F, hm, hk, hb⟩ := F.ex
  refine PE.imp (pe_callS F (hr.mono hj) hg hm hk hb (fun σ => passAt tk σ) ha hdb he hpl) fun σ H Q => ?_
  rintro ⟨W, ρ, S, r, S', R, hd, k1⟩
  obtain ⟨⟨ds, S1⟩, e1, hd⟩ := bindS hd
  simp only [Option.ite_none_right_eq_some] at hd
  obtain ⟨hl, hd⟩ := hd
  refine ⟨W, ρ, S, ds, S1, R, e1, fun W1 vs H1 s1 R1 r1 => ?_⟩
  refine ⟨W1, S1, ds, r, S', R1.base, r1, hl, hd, ?_⟩
  cases r with
  | ok d => exact fun W2 v H2 s2 B2 r2 => k1 W2 v H2 (s1.trans s2) ⟨B2, R1.env.mono s2.le⟩ r2
  | ex c => exact fun W2 cls dd H2 s2 B2 r2 => k1 W2 cls dd H2 (s1.trans s2) ⟨B2, R1.env.mono s2.le⟩ r2
theorem dxe_d (h : PE' X e da) : PX X e (xD da) := PE.imp h fun σ H Q => by
  rintro ⟨W, ρ, S, r, S', R, hd, k⟩
  obtain ⟨⟨d, S1⟩, e1, hd⟩ := mapS hd
  cases hd
  exact ⟨W, ρ, S, d, S1, R, e1, k⟩
/-- arguments, some of which may raise -/
def xNil : DXA := fun _ S => some (.inr [], S)
def xCons (d : DX) (dl : DXA) : DXA := fun ρ S => (d ρ S).bind fun p => match p.1 with
  | .ex c => some (.inl c, p.2)
  | .ok x => (dl ρ p.2).bind fun q => match q.1 with
    | .inl c => some (.inl c, q.2)
    | .inr xs => some (.inr (x :: xs), q.2)
theorem dxa_nil : PXA X [] xNil := PA.imp pa_nil fun σ H Q => by
  rintro ⟨W, ρ, S, r, S', R, hd, k⟩
  cases hd
  exact k W [] H (.refl _ _) R rfl
theorem dxa_cons (h1 : PX X e dx) (h2 : PXA X es dxa) (he : starEach (e :: es) X.env = (false, eval e X.env) :: starEach es X.env := by rfl) : PXA X (e :: es) (xCons dx dxa) := PA.imp (pa_cons h1 h2 he) fun σ H Q => by
  rintro ⟨W, ρ, S, r, S', R, hd, k⟩
  obtain ⟨⟨z, S1⟩, e1, hd⟩ := bindS hd
  refine ⟨W, ρ, S, z, S1, R, e1, ?_⟩
  cases z with
  | ex c =>
    cases hd
    exact k
  | ok x =>
    obtain ⟨⟨y, S2⟩, e2, hd⟩ := bindS hd
    refine fun W1 v H1 s1 R1 r1 => ⟨W1, ρ, S1, y, S2, R1, e2, ?_⟩
    cases y with
    | inl c =>
      cases hd
      exact fun W2 cls dd H2 s2 R2 r2 => k W2 cls dd H2 (s1.trans s2) R2 r2
    | inr xs =>
      cases hd
      exact fun W2 vs H2 s2 R2 r2 => k W2 (v :: vs) H2 (s1.trans s2) R2 ⟨v, vs, rfl, r1.mono s2.le, r2⟩
def xTup (dl : DXA) : DX := fun ρ S => (dl ρ S).bind fun p => match p.1 with
  | .inl c => some (.ex c, p.2)
  | .inr xs => if xs.length ≤ sizeLine then some (.ok (.tup xs), p.2) else none
def xLst (dl : DXA) : DX := fun ρ S => (dl ρ S).bind fun p => match p.1 with
  | .inl c => some (.ex c, p.2)
  | .inr xs => if xs.length ≤ sizeLine then some (.ok (.lst xs), p.2) else none
theorem dxe_tup {x1} (h : PXA X es dxa) : PX X (.Tuple es x1 pos) (xTup dxa) := PE.imp (pe_tupZ h) fun σ H Q => by
  rintro ⟨W, ρ, S, r, S', R, hd, k⟩
  obtain ⟨⟨x, S1⟩, e1, hd⟩ := bindS hd
  refine ⟨W, ρ, S, x, S1, R, e1, ?_⟩
  cases x with
  | inl c =>
    cases hd
    exact k
  | inr xs =>
    simp only [Option.ite_none_right_eq_some] at hd
    obtain ⟨hl, hd⟩ := hd
    cases hd
    refine fun W1 vs H1 s1 R1 r1 => ⟨by rw [r1.length]; exact hl, fun p its hp => ?_⟩
    obtain ⟨W', s', B', t', _⟩ := R1.base.laidT (x := tupOb its) (vs := vs) hp rfl
    exact k W' _ _ (s1.trans s') ⟨B', R1.env.mono s'.le⟩ ⟨p, vs, rfl, t', r1.mono s'.le⟩
theorem dxe_lst (h : PXA X es dxa) : PX X (.List es pos) (xLst dxa) := PE.imp (pe_lst h) fun σ H Q => by
  rintro ⟨W, ρ, S, r, S', R, hd, k⟩
  obtain ⟨⟨x, S1⟩, e1, hd⟩ := bindS hd
  refine ⟨W, ρ, S, x, S1, R, e1, ?_⟩
  cases x with
  | inl c =>
    cases hd
    exact k
  | inr xs =>
    simp only [Option.ite_none_right_eq_some] at hd
    obtain ⟨hl, hd⟩ := hd
    cases hd
    refine fun W1 vs H1 s1 R1 r1 => ⟨by rw [r1.length]; exact hl, fun p hp => ?_⟩
    obtain ⟨W', s', B', t', _⟩ := R1.base.laid (vs := vs) hp
    exact k W' _ _ (s1.trans s') ⟨B', R1.env.mono s'.le⟩ ⟨p, vs, rfl, t', r1.mono s'.le⟩
/-! ### statements -/
theorem evX {keep : List Nat} {ρ : Env2} {r : Rz} {Q : VK} (R : RelS X W0 W ρ S σ H) (e : dx (fzE keep 0 ρ) S = some (r, S1)) (k : match r with
  | .ok d => ∀ W1 v H1, Le W W1 → RelS X W0 W1 (frz keep 0 ρ) S1 σ H1 → Rep W1 d v → Q v H1
  | .ex c => ∀ W1 cls dd H1, Le W W1 → RelS X W0 W1 (frz keep 0 ρ) S1 σ H1 → RepX X.mg W1 c cls dd H1 → XW.W cls dd σ H1) : liftX X dx σ H Q := by
  refine ⟨_, _, S, r, S1, wF_rel keep R, e, ?_⟩
  cases r with
  | ok d => exact fun W1 v H1 s R1 r1 => k W1 v H1 ((wF_le keep R).trans s.le) ((wF_relS keep R).step s R1.base) r1
  | ex c => exact fun W1 cls dd H1 s R1 r1 => k W1 cls dd H1 ((wF_le keep R).trans s.le) ((wF_relS keep R).step s R1.base) r1
def sRetX (keep : List Nat) (d : DX) : DS := fun ρ S => (d (fzE keep 0 ρ) S).map fun p => match p.1 with
  | .ok x => .rt x p.2
  | .ex c => .ex c (frz keep 0 ρ) p.2
def sSetX (keep : List Nat) (i : Nat) (d : DX) : DS := fun ρ S => (d (fzE keep 0 ρ) S).map fun p => match p.1 with
  | .ok x => .nx ((frz keep 0 ρ).set i (.val x)) p.2
  | .ex c => .ex c (frz keep 0 ρ) p.2
def sExpX (keep : List Nat) (d : DX) : DS := fun ρ S => (d (fzE keep 0 ρ) S).map fun p => match p.1 with
  | .ok x => .nx (frz keep 0 ρ) p.2
  | .ex c => .ex c (frz keep 0 ρ) p.2
def sRaise (x : Str) : DS := fun ρ S => some (.ex ⟨x, []⟩ ρ S)
theorem dps_retX (keep : List Nat) (he : PX X e dx) : PS' X (.Return (some e) pos) (sRetX keep dx) := PS.imp (ps_ret he) fun D σ H => by
  rintro ⟨W0, W, ρ, S, o, R, h, k⟩
  obtain ⟨⟨r, S1⟩, e1, h⟩ := mapS h
  refine evX R e1 ?_
  cases r with
  | ok d =>
    cases h
    exact fun W1 v H1 l R1 r1 => k W1 v H1 R1.ent R1.base r1
  | ex c =>
    cases h
    exact fun W1 cls dd H1 l R1 r1 => k W1 σ H1 cls dd l R1 r1
theorem setX_of (keep : List Nat) {i : Nat} {st : Stmt} (h : PS X st (tAsg (liftX X dx) (gName i))) : PS' X st (sSetX keep i dx) := PS.imp h fun D σ H => by
  rintro ⟨W0, W, ρ, S, o, R, h, k⟩
  obtain ⟨⟨r, S1⟩, e1, h⟩ := mapS h
  refine evX R e1 ?_
  cases r with
  | ok d =>
    cases h
    exact fun W1 v H1 l R1 r1 => k W1 _ H1 l (R1.set i r1)
  | ex c =>
    cases h
    exact fun W1 cls dd H1 l R1 r1 => k W1 σ H1 cls dd l R1 r1
theorem dps_setX (keep : List Nat) {i : Nat} {x : Str} {pos' : Pos} (hN : X.N.Nodup) (hi : X.N[i]? = some x) (hx : Loc X.env.scope x) (he : PX X e dx) (hs : swapsWith e (some (.Name x pos')) pos.line X.env = pure false := by rfl) (hf : X.fn x = true ∨ X.env.scope.names.lookup x = some .local := by first | exact .inl rfl | exact .inr rfl | assumption) : PS' X (.Assign [.Name x pos'] e pos) (sSetX keep i dx) := setX_of keep (ps_set hN hi hx he hs hf)
theorem dps_expX (keep : List Nat) (he : PX X e dx) (hs : swapsWith e none pos.line X.env = pure false := by rfl) : PS' X (.Expr e pos) (sExpX keep dx) := PS.imp (ps_expr he hs) fun D σ H => by
  rintro ⟨W0, W, ρ, S, o, R, h, k⟩
  obtain ⟨⟨r, S1⟩, e1, h⟩ := mapS h
  refine evX R e1 ?_
  cases r with
  | ok d =>
    cases h
    exact fun W1 v H1 l R1 r1 => k W1 _ H1 l R1
  | ex c =>
    cases h
    exact fun W1 cls dd H1 l R1 r1 => k W1 σ H1 cls dd l R1 r1
/-- a class of exceptions that a text makes -/
structure ExF (K : PySem.W.Frag) (mg : Str → Option Value) (x : Str) : Prop where
  ex : ∃ C, mg x = some (.ref C) ∧ PySem.W.excIn K C He.veBase "ValueError.__new__" = true ∧ PySem.W.keepIn K (.ref C) = true ∧ PySem.W.subIn K (.ref C) (.type "BaseException") = some true ∧ PySem.W.typeIn K (.ref C) = some (.type "type")
theorem dps_raise {x m : Str} {j : Nat} {p p2 pos2 : Pos} (F : ExF X.K X.mg x) (hc : X.calm = true) (tk : Takes X XW.W) (hg : Gl X x := by rfl) (hdb : (x == ("__debug__" : Str)) = false := by decide) : PS' X (.Raise (some (.Call (.Name x p) [.Constant (.str m) j p2] [] pos)) none pos2) (sRaise x) := by
  obtain ⟨C, gC, q, kC, h1, h2⟩ := F.ex
  refine PS.imp (ps_raise hc tk (pmk_own PySem.F.excBase_ValueError q gC kC (raises_own h1 h2) hg hdb)) fun D σ H => ?_
  rintro ⟨W0, W, ρ, S, o, R, h, k⟩
  cases h
  exact k W σ H (.ref C) none (.refl _) R ⟨gC, rfl⟩
end
end DL


/-! DL53: try .. except X (as e); what a suite asks of e -/
namespace DL
open PySem L2 PyProof.Rows
section
variable {X Y : Cx} {W0 W W1 : Wd} {ρ : Env2} {S S1 : Sh} {σ : L2.St} {H H1 : Hp}
theorem RelS.cx (hK : X.KW = Y.KW) (h0 : X.H_0 = Y.H_0) (R : RelS X W0 W ρ S σ H) : RelS Y W0 W ρ S σ H :=
  ⟨hK ▸ R.base, h0 ▸ R.ent, R.len, R.val, h0 ▸ R.ownF⟩
/-- the slot of a handler's name -/
theorem RelS.setNo (R : RelS X W0 W ρ S σ H) (i : Nat) (o : Option V) : RelS X W0 W (ρ.set i .no) S (σ.set i o) H := by
  obtain ⟨F, O⟩ := R.ownF
  refine ⟨R.base, R.ent, by simp [R.len], fun j d' h => ?_, fun j a => j ≠ i ∧ F j a, fun j s h => ?_, fun j a h => O.low j a h.2, fun j k a h1 h2 => O.dis j k a h1.2 h2.2⟩
  · by_cases e : i = j
    · subst e
      by_cases l : i < ρ.length
      · rw [List.getElem?_set_self l] at h
        cases h
      · rw [List.getElem?_eq_none (by simpa using l)] at h; cases h
    · rw [List.getElem?_set_ne e] at h
      rw [List.getElem?_set_ne e]
      exact R.val j d' h
  · by_cases e : i = j
    · subst e
      by_cases l : i < ρ.length
      · rw [List.getElem?_set_self l] at h
        cases h
        exact trivial
      · rw [List.getElem?_eq_none (by simpa using l)] at h; cases h
    · rw [List.getElem?_set_ne e] at h
      rw [List.getElem?_set_ne e]
      exact (O.at_ j s h).step (.refl _) (fun _ _ => rfl) fun b hb => ⟨Ne.symm e, hb⟩
variable [XW]
theorem After.cx {D : Ends} {o : Out} (hK : X.KW = Y.KW) (h0 : X.H_0 = Y.H_0) (hm : X.mg = Y.mg) (h : After X W0 W D o) : After Y W0 W D o := by
  cases o with
  | nx ρ S => exact fun W' σ H l R => h W' σ H l (R.cx hK.symm h0.symm)
  | bk ρ S => exact fun W' σ H l R => h W' σ H l (R.cx hK.symm h0.symm)
  | ct ρ S => exact fun W' σ H l R => h W' σ H l (R.cx hK.symm h0.symm)
  | rt r S => exact fun W' v H s B r => h W' v H (h0 ▸ s) (hK ▸ B) r
  | ro r S => exact fun W' a vs H s B h1 h2 h3 h4 h5 => h W' a vs H (h0 ▸ s) (hK ▸ B) h1 h2 h3 h4 (h0 ▸ h5)
  | ex c ρ S => exact fun W' σ H cls d l R r => h W' σ H cls d l (R.cx hK.symm h0.symm) (hm ▸ r)
theorem liftS_cx {D : Ends} {d : DS} (hK : X.KW = Y.KW) (h0 : X.H_0 = Y.H_0) (hm : X.mg = Y.mg) (h : liftS X d D σ H) : liftS Y d D σ H := by
  obtain ⟨W0, W, ρ, S, o, R, e, k⟩ := h
  exact ⟨W0, W, ρ, S, o, R.cx hK h0, e, k.cx hK h0 hm⟩
end
/-! ### try .. except x -/
def sTry (tab : List (Str × Bool)) (body : DS) (suite : Ec → DS) : DS := fun ρ S => (body ρ S).bind fun o => match o with
  | .ex c ρ' S' => (tab.lookup c.n).bind fun b => if b then (suite c ρ' S').bind fun o2 => match o2 with
      | .ex _ _ _ => none
      | o2 => some o2
    else some (.ex c ρ' S')
  | o => some o
/-- behind the suite the name is gone -/
def clrO (i : Nat) : Out → Option Out
  | .nx ρ S => some (.nx (ρ.set i .no) S)
  | .bk ρ S => some (.bk (ρ.set i .no) S)
  | .ct ρ S => some (.ct (ρ.set i .no) S)
  | .ex _ _ _ => none
  | o => some o
def sTryAs (tab : List (Str × Bool)) (i : Nat) (body : DS) (suite : Ec → DS) : DS := fun ρ S => (body ρ S).bind fun o => match o with
  | .ex c ρ' S' => (tab.lookup c.n).bind fun b => if b then if i < ρ'.length then (suite c (ρ'.set i .no) S').bind (clrO i) else none else some (.ex c ρ' S')
  | o => some o
/-- what the clause catches -/
structure Catch (K : PySem.W.Frag) (mg : Str → Option Value) (x : Str) (tab : List (Str × Bool)) : Prop where
  ex : ∃ c, mg x = some c ∧ ∀ n b, tab.lookup n = some b → ∃ C, mg n = some (.ref C) ∧ PySem.W.exmOne K (.ref C) c = some b
/-- e is in slot i -/
structure AtE (X : Cx) (i : Nat) (a : Addr) (cls : Value) (dd : Option Addr) (c : Ec) (W : Wd) (σ : L2.St) (H : Hp) : Prop where
  slot : σ[i]? = some (some (.ref a))
  rep : RepX X.mg W c cls dd H
def liftSE [XW] (X : Cx) (i : Nat) (a : Addr) (cls : Value) (dd : Option Addr) (c : Ec) (d : DS) : TS := fun D σ H => ∃ W0 W ρ S o, RelS X W0 W ρ S σ H ∧ AtE X i a cls dd c W σ H ∧ d ρ S = some o ∧ After X W0 W D o
section
variable [XW] {X : Cx} {x n : Str} {i : Nat} {tab : List (Str × Bool)} {body suite : List Stmt} {b₀ : Stmt} {np pos pos' : Pos} {db : DS} {ds : Ec → DS}
theorem dps_try (C : Catch X.K X.mg x tab) (hs : X.stack = X.env :: X.outer) (hf : X.env.frame = some X.env.locals) (hg : Gl X x) (hdb : (x == ("__debug__" : Str)) = false) (tk : Takes X XW.W)
    (hb : ∀ [XW] (pn : List (Addr × Obj)) (xe : Value → Shared → Prop), Takes (X.tr pn xe) XW.W → PassesOwn (model X.prog X.w) X.A X.env xe → PSs' (X.tr pn xe) body db)
    (hsu : ∀ [XW] (a : Addr) (pn : List (Addr × Obj)) (c : Ec), PSs' (X.suite a pn) (b₀ :: suite) (ds c)) :
    PS' X (.Try body [.ExceptHandler (some (.Name x np)) none (b₀ :: suite) pos'] [] [] pos) (sTry tab db ds) := by
  obtain ⟨cv, hc, ht⟩ := C.ex
  let Wo : WX := XW.W
  have L : XW := ⟨fun _ _ _ _ => False⟩
  let ts : Addr → Value → Option Addr → TS := fun a cls d D σ H => ∃ c, @liftS L X (ds c) D σ H
  refine PS.imp (ps_try_only (tb := fun W => @liftS ⟨W⟩ X db) (ts := ts) (Wout := Wo) hs hf ⟨hg, hdb, .inl hc⟩ (show Takes X Wo from tk) (fun W pn xe tk' po => ?_) fun a oe cls d pn hz hfl => ?_) fun D σ H => ?_
  · exact PSs.imp (@hb ⟨W⟩ pn xe tk' po) fun D σ H h => @liftS_cx X (X.tr pn xe) _ _ ⟨W⟩ _ _ rfl rfl rfl h
  · refine ⟨fun pins s σ H D I h => ?_⟩
    obtain ⟨c, h⟩ := h
    exact (@hsu L a ((a, oe) :: pn) c).run pins s σ H D I (@liftS_cx X (X.suite a ((a, oe) :: pn)) _ _ L _ _ rfl rfl rfl h)
  · rintro ⟨W0, W, ρ, S, o, R, h, k⟩
    obtain ⟨o1, e1, h⟩ := bindS h
    refine ⟨W0, W, ρ, S, o1, R, e1, ?_⟩
    cases o1 with
    | ex c ρ1 S1 =>
      intro W' σ' H' cls d l R' rx
      obtain ⟨b, e2, h⟩ := bindS h
      obtain ⟨C, m1, m2⟩ := ht _ _ e2
      have ec : cls = .ref C := Option.some.inj (rx.1.symm.trans m1)
      subst ec
      refine ⟨b, m2, fun hb1 a na => ?_, fun hb0 => ?_⟩
      · subst hb1
        rw [if_pos rfl] at h
        obtain ⟨o2, e3, h⟩ := bindS h
        refine ⟨c, W0, W', ρ1, S1, o2, R', e3, ?_⟩
        cases o2 with
        | ex _ _ _ => cases h
        | nx ρ S => cases h; exact k.le l
        | rt ρ S => cases h; exact k.le l
        | ro ρ S => cases h; exact k.le l
        | bk ρ S => cases h; exact k.le l
        | ct ρ S => cases h; exact k.le l
      · subst hb0
        cases h
        exact k W' σ' H' _ d l R' rx
    | nx ρ S => cases h; exact k
    | rt ρ S => cases h; exact k
    | ro ρ S => cases h; exact k
    | bk ρ S => cases h; exact k
    | ct ρ S => cases h; exact k
theorem dps_tryAs (C : Catch X.K X.mg x tab) (hs : X.stack = X.env :: X.outer) (hf : X.env.frame = some X.env.locals) (hN : X.N.Nodup) (hi : X.N[i]? = some n) (hln : X.env.kindOf n = some .local) (hg : Gl X x) (hdb : (x == ("__debug__" : Str)) = false) (tk : Takes X XW.W)
    (hb : ∀ [XW] (pn : List (Addr × Obj)) (xe : Value → Shared → Prop), Takes (X.tr pn xe) XW.W → PassesOwn (model X.prog X.w) X.A X.env xe → PSs' (X.tr pn xe) body db)
    (hsu : ∀ [XW] (a : Addr) (oe : Obj) (cls : Value) (d : Option Addr) (pn : List (Addr × Obj)) (c : Ec), Zc cls d oe → (∃ vs, oe.data = .fields vs) → PSs (X.suite a ((a, oe) :: pn)) (b₀ :: suite) (liftSE (X.suite a ((a, oe) :: pn)) i a cls d c (ds c))) :
    PS' X (.Try body [.ExceptHandler (some (.Name x np)) (some n) (b₀ :: suite) pos'] [] [] pos) (sTryAs tab i db ds) := by
  obtain ⟨cv, hc, ht⟩ := C.ex
  let Wo : WX := XW.W
  have L : XW := ⟨fun _ _ _ _ => False⟩
  let ts : Addr → Value → Option Addr → TS := fun a cls d D σ H => ∃ c, @liftSE L X i a cls d c (ds c) D σ H
  refine PS.imp (ps_try_as (tb := fun W => @liftS ⟨W⟩ X db) (ts := ts) (Wout := Wo) hs hf hN hi hln ⟨hg, hdb, .inl hc⟩ (show Takes X Wo from tk) (fun W pn xe tk' po => ?_) fun a oe cls d pn hz hfl => ?_) fun D σ H => ?_
  · exact PSs.imp (@hb ⟨W⟩ pn xe tk' po) fun D σ H h => @liftS_cx X (X.tr pn xe) _ _ ⟨W⟩ _ _ rfl rfl rfl h
  · refine ⟨fun pins s σ H D I h => ?_⟩
    obtain ⟨c, W0, W, ρ, S, o, R, A, e, k⟩ := h
    exact (@hsu L a oe cls d pn c hz hfl).run pins s σ H D I ⟨W0, W, ρ, S, o, RelS.cx (X := X) (Y := X.suite a ((a, oe) :: pn)) rfl rfl R, ⟨A.slot, A.rep⟩, e, @After.cx X (X.suite a ((a, oe) :: pn)) _ _ L _ _ rfl rfl rfl k⟩
  · rintro ⟨W0, W, ρ, S, o, R, h, k⟩
    obtain ⟨o1, e1, h⟩ := bindS h
    refine ⟨W0, W, ρ, S, o1, R, e1, ?_⟩
    cases o1 with
    | ex c ρ1 S1 =>
      intro W' σ' H' cls d l R' rx
      obtain ⟨b, e2, h⟩ := bindS h
      obtain ⟨C, m1, m2⟩ := ht _ _ e2
      have ec : cls = .ref C := Option.some.inj (rx.1.symm.trans m1)
      subst ec
      refine ⟨b, m2, fun hb1 a na => ?_, fun hb0 => ?_⟩
      · subst hb1
        rw [if_pos rfl] at h
        simp only [Option.ite_none_right_eq_some] at h
        obtain ⟨hl1, h⟩ := h
        obtain ⟨o2, e3, h⟩ := bindS h
        have hl : i < σ'.length := by
          rw [← R'.len]
          exact hl1
        refine ⟨c, W0, W', ρ1.set i .no, S1, o2, R'.setNo i _, ⟨List.getElem?_set_self hl, rx⟩, e3, ?_⟩
        cases o2 with
        | ex _ _ _ => cases h
        | nx ρ S => cases h; exact fun W2 σ2 H2 l2 R2 => k W2 _ H2 (l.trans l2) (R2.setNo i none)
        | rt ρ S => cases h; exact k.le l
        | ro ρ S => cases h; exact k.le l
        | bk ρ S => cases h; exact fun W2 σ2 H2 l2 R2 => k W2 _ H2 (l.trans l2) (R2.setNo i none)
        | ct ρ S => cases h; exact fun W2 σ2 H2 l2 R2 => k W2 _ H2 (l.trans l2) (R2.setNo i none)
      · subst hb0
        cases h
        exact k W' σ' H' _ d l R' rx
    | nx ρ S => cases h; exact k
    | rt ρ S => cases h; exact k
    | ro ρ S => cases h; exact k
    | bk ρ S => cases h; exact k
    | ct ρ S => cases h; exact k
end
end DL


/-! DL54: what a suite asks of e -/
namespace DL
open PySem L2 PyProof.Rows
section
variable {X : Cx} {W0 W W1 : Wd} {ρ : Env2} {S S1 : Sh} {σ : L2.St} {H H1 : Hp} {i : Nat} {a : Addr} {cls : Value} {dd : Option Addr} {c : Ec}
theorem RepX.to {mg : Str → Option Value} (r : RepX mg W c cls dd H) (l : Le W W1) (hk : ∀ b o, H b = some o → b ∉ W.m → H1 b = some o) (hm : ∀ b, b ∈ W1.m → b ∈ W.m ∨ H b = none) : RepX mg W1 c cls dd H1 := by
  obtain ⟨h1, h2⟩ := r
  refine ⟨h1, ?_⟩
  cases e : c.fs with
  | nil => rw [e] at h2; exact h2
  | cons f fs =>
    rw [e] at h2
    obtain ⟨d, vs, e1, e2, e3, e4⟩ := h2
    refine ⟨d, vs, e1, hk d _ e2 e4, e3.mono l, fun z => ?_⟩
    rcases hm d z with z | z
    · exact e4 z
    · rw [e2] at z; cases z
theorem RepX.step {mg : Str → Option Value} (s : Stp W W1 H H1) (r : RepX mg W c cls dd H) : RepX mg W1 c cls dd H1 := r.to s.le s.keep s.new
theorem AtE.step (s : Stp W W1 H H1) (A : AtE X i a cls dd c W σ H) : AtE X i a cls dd c W1 σ H1 := ⟨A.slot, A.rep.step s⟩
def liftEe (X : Cx) (i : Nat) (a : Addr) (cls : Value) (dd : Option Addr) (c : Ec) (d : DE) : TE := fun σ H Q => ∃ W ρ S r S', Rel X.KW W ρ S σ H ∧ AtE X i a cls dd c W σ H ∧ d ρ S = some (r, S') ∧ ∀ W' v H', Stp W W' H H' → Rel X.KW W' ρ S' σ H' → Rep W' r v → Q v H'
def liftTe (X : Cx) (i : Nat) (a : Addr) (cls : Value) (dd : Option Addr) (c : Ec) (d : DT) : TT := fun σ H Q => ∃ W ρ S r S', Rel X.KW W ρ S σ H ∧ AtE X i a cls dd c W σ H ∧ d ρ S = some (r, S') ∧ ∀ W' H', Stp W W' H H' → Rel X.KW W' ρ S' σ H' → Q r H'
def liftAe (X : Cx) (i : Nat) (a : Addr) (cls : Value) (dd : Option Addr) (c : Ec) (d : DA) : TA := fun σ H Q => ∃ W ρ S r S', Rel X.KW W ρ S σ H ∧ AtE X i a cls dd c W σ H ∧ d ρ S = some (r, S') ∧ ∀ W' vs H', Stp W W' H H' → Rel X.KW W' ρ S' σ H' → Reps W' r vs → Q vs H'
variable {e f g : Expr} {es : List Expr} {da db : DE} {dt dt2 : DT} {dl : DA} {pos : Pos}
theorem dE_d (h : PE' X e da) : PE X e (liftEe X i a cls dd c da) := PE.imp h fun σ H Q => by
  rintro ⟨W, ρ, S, r, S', R, A, hd, k⟩
  exact ⟨W, ρ, S, r, S', R, hd, k⟩
theorem dAe_nil : PA X [] (liftAe X i a cls dd c dNil) := PA.imp pa_nil fun σ H Q => by
  rintro ⟨W, ρ, S, r, S', R, A, hd, k⟩
  cases hd
  exact k W [] H (.refl _ _) R rfl
theorem dAe_cons (h1 : PE X e (liftEe X i a cls dd c da)) (h2 : PA X es (liftAe X i a cls dd c dl)) (he : starEach (e :: es) X.env = (false, eval e X.env) :: starEach es X.env := by rfl) : PA X (e :: es) (liftAe X i a cls dd c (dCons da dl)) := PA.imp (pa_cons h1 h2 he) fun σ H Q => by
  rintro ⟨W, ρ, S, r, S', R, A, hd, k⟩
  unfold dCons at hd
  split at hd
  · rename_i x S1 e1
    split at hd
    · rename_i y S2 e2
      cases hd
      exact ⟨W, ρ, S, x, S1, R, A, e1, fun W1 v H1 s1 R1 r1 => ⟨W1, ρ, S1, y, _, R1, A.step s1, e2, fun W2 vs H2 s2 R2 r2 => k W2 (v :: vs) H2 (s1.trans s2) R2 ⟨v, vs, rfl, r1.mono s2.le, r2⟩⟩⟩
    · cases hd
  · cases hd
theorem dE_tup {x1} (h : PA X es (liftAe X i a cls dd c dl)) : PE X (.Tuple es x1 pos) (liftEe X i a cls dd c (dTup dl)) := PE.imp (pe_tupZ h) fun σ H Q => by
  rintro ⟨W, ρ, S, r, S', R, A, hd, k⟩
  obtain ⟨⟨x, S1⟩, e1, hd⟩ := bindS hd
  obtain ⟨z, e3, hd⟩ := mapS hd
  cases hd
  simp only [tupO, Option.ite_none_right_eq_some] at e3
  obtain ⟨hl, e3⟩ := e3
  cases e3
  refine ⟨W, ρ, S, x, S1, R, A, e1, fun W1 vs H1 s1 R1 r1 => ⟨by rw [r1.length]; exact hl, fun p its hp => ?_⟩⟩
  obtain ⟨W', s', B', t', _⟩ := R1.base.laidT (x := tupOb its) (vs := vs) hp rfl
  exact k W' _ _ (s1.trans s') ⟨B', R1.env.mono s'.le⟩ ⟨p, vs, rfl, t', r1.mono s'.le⟩
theorem dE_lst (h : PA X es (liftAe X i a cls dd c dl)) : PE X (.List es pos) (liftEe X i a cls dd c (dLst dl)) := PE.imp (pe_lst h) fun σ H Q => by
  rintro ⟨W, ρ, S, r, S', R, A, hd, k⟩
  obtain ⟨⟨x, S1⟩, e1, hd⟩ := bindS hd
  obtain ⟨z, e3, hd⟩ := mapS hd
  cases hd
  simp only [lstO, Option.ite_none_right_eq_some] at e3
  obtain ⟨hl, e3⟩ := e3
  cases e3
  refine ⟨W, ρ, S, x, S1, R, A, e1, fun W1 vs H1 s1 R1 r1 => ⟨by rw [r1.length]; exact hl, fun p hp => ?_⟩⟩
  obtain ⟨W', s', B', t', _⟩ := R1.base.laid (vs := vs) hp
  exact k W' _ _ (s1.trans s') ⟨B', R1.env.mono s'.le⟩ ⟨p, vs, rfl, t', r1.mono s'.le⟩
/-! ### tests -/
theorem tE_val (h : PE X e (liftEe X i a cls dd c da)) (he : ∀ whole, isTrue e X.env whole = (do let v ← whole; standAt e.pos; holding [v] (truthy v)) := by intro _; rfl) : PT X e (liftTe X i a cls dd c (dtE da)) := PT.imp (pt_val h he) fun σ H Q => by
  rintro ⟨W, ρ, S, r, S', R, A, hd, k⟩
  exact ⟨W, ρ, S, .bl r, S', R, A, dtE_of hd, fun W' v H' s' R' r' => ⟨r, r', k W' H' s' R'⟩⟩
theorem tE_not (ha : PT X e (liftTe X i a cls dd c dt)) : PT X (.UnaryOp .Not e pos) (liftTe X i a cls dd c (dNot dt)) := PT.imp (pt_not ha) fun σ H Q => by
  rintro ⟨W, ρ, S, r, S', R, A, hd, k⟩
  obtain ⟨⟨x, S1⟩, e1, hd⟩ := mapS hd
  cases hd
  exact ⟨W, ρ, S, x, S1, R, A, e1, fun W' H' s' R' => k W' H' s' R'⟩
theorem wE_or1 (ha : PT X e (liftTe X i a cls dd c dt)) : PW X (.BoolOp .Or [e] pos) (liftTe X i a cls dd c dt) := pw_or1 ha
theorem wE_and1 (ha : PT X e (liftTe X i a cls dd c dt)) : PW X (.BoolOp .And [e] pos) (liftTe X i a cls dd c dt) := pw_and1 ha
theorem wE_or (ha : PT X e (liftTe X i a cls dd c dt)) (hb : PW X (.BoolOp .Or (f :: es) pos) (liftTe X i a cls dd c dt2)) : PW X (.BoolOp .Or (e :: f :: es) pos) (liftTe X i a cls dd c (dOr dt dt2)) := PW.imp (pw_or ha hb) fun σ H Q => by
  rintro ⟨W, ρ, S, r, S', R, A, hd, k⟩
  obtain ⟨⟨x, S1⟩, e1, hd⟩ := bindS hd
  refine ⟨W, ρ, S, x, S1, R, A, e1, fun W1 H1 s1 R1 => ?_⟩
  cases x with
  | true =>
    rw [if_pos rfl]
    simp only [if_true] at hd
    cases hd
    exact k W1 H1 s1 R1
  | false =>
    rw [if_neg Bool.false_ne_true]
    exact ⟨W1, ρ, S1, r, S', R1, A.step s1, by simpa using hd, fun W2 H2 s2 R2 => k W2 H2 (s1.trans s2) R2⟩
theorem wE_and (ha : PT X e (liftTe X i a cls dd c dt)) (hb : PW X (.BoolOp .And (f :: es) pos) (liftTe X i a cls dd c dt2)) : PW X (.BoolOp .And (e :: f :: es) pos) (liftTe X i a cls dd c (dAnd dt dt2)) := PW.imp (pw_and ha hb) fun σ H Q => by
  rintro ⟨W, ρ, S, r, S', R, A, hd, k⟩
  obtain ⟨⟨x, S1⟩, e1, hd⟩ := bindS hd
  refine ⟨W, ρ, S, x, S1, R, A, e1, fun W1 H1 s1 R1 => ?_⟩
  cases x with
  | true =>
    rw [if_pos rfl]
    exact ⟨W1, ρ, S1, r, S', R1, A.step s1, by simpa using hd, fun W2 H2 s2 R2 => k W2 H2 (s1.trans s2) R2⟩
  | false =>
    rw [if_neg Bool.false_ne_true]
    simp only [Bool.false_eq_true, if_false] at hd
    cases hd
    exact k W1 H1 s1 R1
theorem tE_w (h : PW X e (liftTe X i a cls dd c dt)) : PT X e (liftTe X i a cls dd c dt) := h.pt
/-! ### statements -/
/-- if of a suite: the branch ends the suite -/
def sIfE (t : DT) (d1 d2 : DS) : DS := fun ρ S => (t (fzE [] 0 ρ) S).bind fun p => if p.1 then (d1 ρ p.2).bind fun o => match o with
    | .nx _ _ => none
    | o => some o
  else d2 ρ p.2
variable [XW] {A : List Stmt} {st : Stmt} {rest : List Stmt} {d1 d2 : DS}
theorem dss_last (h : PSs' X rest d1) : PSs X rest (liftSE X i a cls dd c d1) := PSs.imp h fun D σ H => by
  rintro ⟨W0, W, ρ, S, o, R, A, h, k⟩
  exact ⟨W0, W, ρ, S, o, R, h, k⟩
theorem dss_if (ht : PT X e (liftTe X i a cls dd c dt)) (h1 : PSs' X A d1) (h2 : PSs X rest (liftSE X i a cls dd c d2)) : PSs X (.If e A [] pos :: rest) (liftSE X i a cls dd c (sIfE dt d1 d2)) := PSs.imp (pss_cons (ps_if ht h1 pss_nil) h2) fun D σ H => by
  rintro ⟨W0, W, ρ, S, o, R, A, h, k⟩
  obtain ⟨⟨b, S1⟩, e1, h⟩ := bindS h
  refine ⟨_, _, S, b, S1, wF_rel [] R, ⟨A.slot, A.rep.to (wF_le [] R) (fun _ _ h _ => h) fun _ h => .inl h⟩, e1, fun W1 H1 s R1 => ?_⟩
  obtain ⟨W2, R2, _, _, _, m2, _, l2⟩ := wP [] R s R1.base rfl
  cases b with
  | true =>
    rw [if_pos rfl]
    simp only [if_true] at h
    obtain ⟨o2, e2, h⟩ := bindS h
    refine ⟨W0, W2, ρ, S1, o2, R2, e2, ?_⟩
    cases o2 with
    | nx _ _ => cases h
    | rt _ _ => cases h; exact k.le l2
    | ro _ _ => cases h; exact k.le l2
    | bk _ _ => cases h; exact k.le l2
    | ct _ _ => cases h; exact k.le l2
    | ex _ _ _ => cases h; exact k.le l2
  | false =>
    rw [if_neg Bool.false_ne_true]
    simp only [Bool.false_eq_true, if_false] at h
    refine ⟨W0, W2, ρ, S1, o, R2, ⟨A.slot, A.rep.to l2 s.keep fun b hb => ?_⟩, h, k.le l2⟩
    rw [m2] at hb
    exact s.new b hb
theorem dss_ret (he : PE X e (liftEe X i a cls dd c da)) : PSs X [.Return (some e) pos] (liftSE X i a cls dd c (sRet [] da)) := PSs.imp (pss_one (ps_ret he)) fun D σ H => by
  rintro ⟨W0, W, ρ, S, o, R, A, h, k⟩
  obtain ⟨⟨r, S1⟩, e1, h⟩ := mapS h
  cases h
  exact ⟨_, _, S, r, S1, wF_rel [] R, ⟨A.slot, A.rep.to (wF_le [] R) (fun _ _ h _ => h) fun _ h => .inl h⟩, e1, fun W1 v H1 s R1 r1 => k W1 v H1 ((wF_relS [] R).step s R1.base).ent R1.base r1⟩
end
end DL


/-! DL55: isinstance(e, T), e the exception that the suite holds -/
namespace DL
open PySem L2 PyProof.Rows
/-- what the class D must say, so that isinstance asks its instances rightly -/
structure ExI (K : PySem.W.Frag) (D : Addr) : Prop where
  hg : PySem.W.findIn K (.ref D) "__getattribute__" = some (some (.builtin "BaseException.__getattribute__"))
  hk : PySem.W.findIn K (.ref D) "__getattr__" = some none
  hs : PySem.W.subIn K (.ref D) (.type "BaseException") = some true
  hd : PySem.W.hasDictIn K D = true
  ha : PySem.W.findIn K (.ref D) "__class__" = some (some (.builtin "object.__class__"))
  hn : PySem.W.specialIn K (.builtin "object.__class__") "__get__" = some (some (.builtin "getset_descriptor.__get__"))
  ht : PySem.W.takesIn K (.builtin "object.__class__") = some true
  hm : PySem.W.mroIn K D (.type "object") = some true
/-- isinstance(e, T): T a value -/
structure IsF (K : PySem.W.Frag) (mg : Str → Option Value) (ts : List Value) (tab : List (Str × Bool)) : Prop where
  ex : ∀ n b, tab.lookup n = some b → ∃ D, mg n = some (.ref D) ∧ ExI K D ∧ PySem.W.kitAny K (.ref D) ts = some b
def dIsE (tab : List (Str × Bool)) (c : Ec) : DE := fun ρ S => if c.fs = [] then (tab.lookup c.n).map fun b => (.bl b, S) else none
section
variable {X : Cx} {W0 W W1 : Wd} {ρ : Env2} {S S1 : Sh} {σ : L2.St} {H H1 : Hp} {i : Nat} {a : Addr} {oe : Obj} {pn : List (Addr × Obj)} {cls : Value} {dd : Option Addr} {c : Ec} {tab : List (Str × Bool)}
theorem inst_at {D : Addr} {pins : List (Addr × Obj)} {s : Shared} (I : Inv (X.suite a ((a, oe) :: pn)) pins σ H s) (hz : Zc (.ref D) none oe) (hf : ∃ vs, oe.data = .fields vs) : PySem.W.InstAt s.heap a oe D none := by
  obtain ⟨hget, _⟩ := I.pin (a, oe) (List.mem_append.mpr (.inl List.mem_cons_self))
  obtain ⟨vs, hv⟩ := hf
  obtain ⟨oc, od, oda, osl⟩ := oe
  obtain ⟨h1, h2⟩ := hz
  dsimp only at h1 h2 hv
  subst h1 h2 hv
  exact ⟨hget, rfl, rfl, trivial⟩
theorem kit1 {K : PySem.W.Frag} {t c : Value} {b : Bool} (h : PySem.W.kitAny K t [c] = some b) : PySem.W.kitOne K t c = some b := by
  unfold PySem.W.kitAny at h
  split at h
  · rename_i e; cases h; exact e
  · rename_i e
    cases h
    exact e
  · cases h
/-- isinstance(e, (A, B, ..)) -/
def rIsEs (K : PySem.W.Frag) (a : Addr) (cls : Value) (dd : Option Addr) : List V → Hp → VK → Prop := fun xs H Q => ∃ (D tp : Addr) (cs : List V) (us : List Value) (b : Bool), xs = [.ref a, .ref tp] ∧ cls = .ref D ∧ dd = none ∧ ExI K D ∧ H tp = some (.tup cs) ∧ Paired ClsV cs us ∧ PySem.W.kitAny K (.ref D) us = some b ∧ Q (.bl b) H
theorem call_isEs (hz : Zc cls dd oe) (hf : ∃ vs, oe.data = .fields vs) : CallR (X.suite a ((a, oe) :: pn)) (.builtin "isinstance") (rIsEs X.K a cls dd) := by
  intro pins s σ H xs us Q I r h
  obtain ⟨D, tp, cs, ts, b, rfl, rfl, rfl, C, hT, k, e, q⟩ := h
  obtain ⟨u1, u2, rfl, r1, r2⟩ := vals2 r
  cases (show u2 = Value.ref tp from r2)
  cases (show u1 = Value.ref a from r1)
  have J := inst_at I hz hf
  obtain ⟨_, its, rv, o, h1, h2, n, h3⟩ := (show ObjOk X.prog X.w H s.heap tp (.tup cs) from I.hok tp _ hT)
  have e3 := ClsV.all k rv
  subst e3
  obtain ⟨oc, od, dt, sl⟩ := o
  simp only at h2 h3
  subst h2 h3
  exact PySem.W.kia_tup (PySem.W.handS_kitx_exc C.hg C.hk C.hs C.hd C.ha C.hn C.ht C.hm) I.kIn J h1 e (fun z => nomatch z) fun tk => ⟨.bl b, H, I.kept (t' := tk) fun _ _ z => z, rfl, q⟩
def rIsE1 (K : PySem.W.Frag) (a : Addr) (cls : Value) (dd : Option Addr) : List V → Hp → VK → Prop := fun xs H Q => ∃ (D : Addr) (t : V) (u : Value) (b : Bool), xs = [.ref a, t] ∧ cls = .ref D ∧ dd = none ∧ ExI K D ∧ ClsV t u ∧ PySem.W.kitOne K (.ref D) u = some b ∧ Q (.bl b) H
theorem call_isE1 (hz : Zc cls dd oe) (hf : ∃ vs, oe.data = .fields vs) : CallR (X.suite a ((a, oe) :: pn)) (.builtin "isinstance") (rIsE1 X.K a cls dd) := by
  intro pins s σ H xs us Q I r h
  obtain ⟨D, t, u, b, rfl, rfl, rfl, C, k, e, q⟩ := h
  obtain ⟨u1, u2, rfl, r1, r2⟩ := vals2 r
  cases (show u1 = Value.ref a from r1)
  have e2 := k.eq r2
  subst e2
  have J := inst_at I hz hf
  exact PySem.W.kia_one (PySem.W.handS_kitx_exc C.hg C.hk C.hs C.hd C.ha C.hn C.ht C.hm) I.kIn J e (fun z => nomatch z) fun tk => ⟨.bl b, H, I.kept (t' := tk) fun _ _ z => z, rfl, q⟩
variable {e b : Expr} {pos p : Pos}
theorem dIsE_inv {K : PySem.W.Frag} {mg : Str → Option Value} {ts : List Value} {ρ : Env'} {r : D} (F : IsF K mg ts tab) (h : dIsE tab c ρ S = some (r, S1)) (A : RepX mg W c cls dd H) : S1 = S ∧ ∃ D b, r = .bl b ∧ cls = .ref D ∧ dd = none ∧ ExI K D ∧ PySem.W.kitAny K (.ref D) ts = some b := by
  unfold dIsE at h
  simp only [Option.ite_none_right_eq_some] at h
  obtain ⟨h0, h⟩ := h
  obtain ⟨bb, h1, h2⟩ := mapS h
  cases h2
  obtain ⟨D, h3, h4, h5⟩ := F.ex _ _ h1
  obtain ⟨m1, m2⟩ := A
  rw [h0] at m2
  exact ⟨rfl, D, bb, rfl, Option.some.inj (m1.symm.trans h3), m2, h4, h5⟩
/-- own classes -/
def oc (K : PySem.W.Frag) (xs : List Str) : List Value := xs.map fun x => .ref (He.ga K x)
def ocV (K : PySem.W.Frag) (xs : List Str) : List V := xs.map fun x => .ref (He.ga K x)
theorem paired_oc (K : PySem.W.Frag) : ∀ xs : List Str, Paired ClsV (ocV K xs) (oc K xs)
  | [] => .nil
  | _ :: xs => .cons (.own _) (paired_oc K xs)
theorem dE_isT {xs : List Str} (hz : Zc cls dd oe) (hf : ∃ vs, oe.data = .fields vs) (F : IsF X.K X.mg (oc X.K xs) tab) (hm : X.mg "isinstance" = none) (he : PE (X.suite a ((a, oe) :: pn)) e (tVar i)) (hb : PE (X.suite a ((a, oe) :: pn)) b (fun σ H Q => ∀ q, H q = none → Q (.ref q) (upd H q (.tup (ocV X.K xs))))) (hg : Gl (X.suite a ((a, oe) :: pn)) "isinstance" := by rfl)
    (hs : starEach [e, b] X.env = (false, eval e X.env) :: starEach [b] X.env := by rfl) (hs2 : starEach [b] X.env = (false, eval b X.env) :: starEach [] X.env := by rfl) (hpl : (backTo pos (starEach [b] X.env)).any (·.1) = false := by rfl) : PE (X.suite a ((a, oe) :: pn)) (.Call (.Name "isinstance" p) [e, b] [] pos) (liftEe (X.suite a ((a, oe) :: pn)) i a cls dd c (dIsE tab c)) :=
  PE.imp (pe_callB (X := X.suite a ((a, oe) :: pn)) (call_isEs hz hf) hg hm (by decide +kernel) (pa_cons he (pa_cons hb pa_nil hs2) hs) (by decide) (by decide) hs hpl) fun σ H Q => by
  rintro ⟨W, ρ, S, r, S', R, A, hd, k⟩
  obtain ⟨rfl, D, bb, rfl, rfl, rfl, C, kk⟩ := dIsE_inv F hd A.rep
  refine ⟨_, A.slot, fun q hq => ?_⟩
  obtain ⟨B2, s2⟩ := R.base.alloc (.tup (ocV X.K xs)) hq
  exact ⟨D, q, ocV X.K xs, oc X.K xs, bb, rfl, rfl, rfl, C, upd_same, paired_oc X.K xs, kk, k W _ _ s2 ⟨B2, R.env⟩ rfl⟩
theorem dE_is1 {t : V} {u : Value} (hz : Zc cls dd oe) (hf : ∃ vs, oe.data = .fields vs) (ht : ClsV t u) (F : IsF X.K X.mg [u] tab) (hm : X.mg "isinstance" = none) (he : PE (X.suite a ((a, oe) :: pn)) e (tVar i)) (hb : PE (X.suite a ((a, oe) :: pn)) b (tC t)) (hg : Gl (X.suite a ((a, oe) :: pn)) "isinstance" := by rfl)
    (hs : starEach [e, b] X.env = (false, eval e X.env) :: starEach [b] X.env := by rfl) (hs2 : starEach [b] X.env = (false, eval b X.env) :: starEach [] X.env := by rfl) (hpl : (backTo pos (starEach [b] X.env)).any (·.1) = false := by rfl) : PE (X.suite a ((a, oe) :: pn)) (.Call (.Name "isinstance" p) [e, b] [] pos) (liftEe (X.suite a ((a, oe) :: pn)) i a cls dd c (dIsE tab c)) :=
  PE.imp (pe_callB (X := X.suite a ((a, oe) :: pn)) (call_isE1 hz hf) hg hm (by decide +kernel) (pa_cons he (pa_cons hb pa_nil hs2) hs) (by decide) (by decide) hs hpl) fun σ H Q => by
  rintro ⟨W, ρ, S, r, S', R, A, hd, k⟩
  obtain ⟨rfl, D, bb, rfl, rfl, rfl, C, kk⟩ := dIsE_inv F hd A.rep
  exact ⟨_, A.slot, D, t, u, bb, rfl, rfl, rfl, C, ht, kit1 kk, k W _ _ (.refl _ _) R rfl⟩
/-- a tuple of own classes -/
theorem pe_ocs {Y : Cx} {xs : List Str} {es : List Expr} {t : TA} (h : PA Y es t) (ht : ∀ σ H Q, Q (ocV Y.K xs) H → t σ H Q) (hl : xs.length ≤ 100) {x1 : Nat} : PE Y (.Tuple es x1 pos) (fun σ H Q => ∀ q, H q = none → Q (.ref q) (upd H q (.tup (ocV Y.K xs)))) :=
  PE.imp (pe_tup h) fun σ H Q k => ht σ H _ ⟨by
    rw [ocV, List.length_map]
    exact Nat.le_trans hl (by decide), k⟩
theorem pe_oc {Y : Cx} {x : Str} {p : Pos} (hm : Y.mg x = some (.ref (He.ga Y.K x))) (hg : Gl Y x := by rfl) (hd : (x == ("__debug__" : Str)) = false := by decide) : PE Y (.Name x p) (tC (.ref (He.ga Y.K x))) := pe_glob hg hm rfl hd
end
/-! ### the facts, looked at -/
/-- D n: n's instances are asked rightly; each (x, b): isinstance of x tells b -/
def exiB (K : PySem.W.Frag) (D : Addr) : Bool := He.eqO (PySem.W.findIn K (.ref D) "__getattribute__") (some (some (.builtin "BaseException.__getattribute__"))) && (He.eqO (PySem.W.findIn K (.ref D) "__getattr__") (some none) && (decide (PySem.W.subIn K (.ref D) (.type "BaseException") = some true) && (PySem.W.hasDictIn K D &&
  (He.eqO (PySem.W.findIn K (.ref D) "__class__") (some (some (.builtin "object.__class__"))) && (He.eqO (PySem.W.specialIn K (.builtin "object.__class__") "__get__") (some (some (.builtin "getset_descriptor.__get__"))) && (decide (PySem.W.takesIn K (.builtin "object.__class__") = some true) && decide (PySem.W.mroIn K D (.type "object") = some true)))))))
theorem exiB_ok {K : PySem.W.Frag} {D : Addr} (h : exiB K D = true) : ExI K D := by
  unfold exiB at h
  simp only [Bool.and_eq_true, decide_eq_true_eq] at h
  obtain ⟨h1, h2, h3, h4, h5, h6, h7, h8⟩ := h
  exact ⟨He.eqO_ok h1, He.eqO_ok h2, h3, h4, He.eqO_ok h5, He.eqO_ok h6, h7, h8⟩
def isfB (K : PySem.W.Frag) (ts : List Value) : List (Str × Bool) → Bool
  | [] => true
  | (n, b) :: r => (He.eqO (PySem.W.nsIn K mainGlobals n) (some (some (.ref (He.ga K n)))) && (exiB K (He.ga K n) && decide (PySem.W.kitAny K (.ref (He.ga K n)) ts = some b))) && isfB K ts r
theorem isfB_ok {K : PySem.W.Frag} {h : Heap} {mg : Str → Option Value} {ts : List Value} (X : K.In h) (G : h.Ns mainGlobals mg) : ∀ {tab : List (Str × Bool)}, isfB K ts tab = true → IsF K mg ts tab
  | [], _ => ⟨fun n b e => by cases e⟩
  | (m, bb) :: r, q => by
    simp only [isfB, Bool.and_eq_true, decide_eq_true_eq] at q
    obtain ⟨⟨q1, q2, q3⟩, q4⟩ := q
    refine ⟨fun n b e => ?_⟩
    rw [List.lookup_cons] at e
    by_cases c : n == m
    · rw [c] at e
      cases e
      have : n = m := by simpa using c
      subst this
      exact ⟨_, PySem.W.mg_of X G (He.eqO_ok q1), exiB_ok q2, q3⟩
    · rw [show (n == m) = false by simpa using c] at e
      exact (isfB_ok X G q4).ex n b e
def catchB (K : PySem.W.Frag) (x : Str) : List (Str × Bool) → Bool
  | [] => He.eqO (PySem.W.nsIn K mainGlobals x) (some (some (.ref (He.ga K x))))
  | (n, b) :: r => (He.eqO (PySem.W.nsIn K mainGlobals n) (some (some (.ref (He.ga K n)))) && decide (PySem.W.exmOne K (.ref (He.ga K n)) (.ref (He.ga K x)) = some b)) && catchB K x r
theorem catchB_ok {K : PySem.W.Frag} {h : Heap} {mg : Str → Option Value} {x : Str} (X : K.In h) (G : h.Ns mainGlobals mg) : ∀ {tab : List (Str × Bool)}, catchB K x tab = true → Catch K mg x tab
  | [], q => ⟨_, PySem.W.mg_of X G (He.eqO_ok q), fun n b e => by cases e⟩
  | (m, bb) :: r, q => by
    simp only [catchB, Bool.and_eq_true, decide_eq_true_eq] at q
    obtain ⟨⟨q1, q3⟩, q4⟩ := q
    obtain ⟨cv, hc, ht⟩ := (catchB_ok (x := x) X G q4).ex
    refine ⟨cv, hc, fun n b e => ?_⟩
    rw [List.lookup_cons] at e
    by_cases c : n == m
    · rw [c] at e
      cases e
      have : n = m := by simpa using c
      subst this
      refine ⟨_, PySem.W.mg_of X G (He.eqO_ok q1), ?_⟩
      have ecv : cv = .ref (He.ga K x) := by
        have : ∀ {r : List (Str × Bool)}, catchB K x r = true → mg x = some (.ref (He.ga K x)) := fun {r} => by
          induction r with
          | nil => exact fun q => PySem.W.mg_of X G (He.eqO_ok q)
          | cons y r ih =>
            obtain ⟨y1, y2⟩ := y
            intro q
            simp only [catchB, Bool.and_eq_true] at q
            exact ih q.2
        exact Option.some.inj (hc.symm.trans (this q4))
      rw [ecv]
      exact q3
    · rw [show (n == m) = false by simpa using c] at e
      exact ht n b e
def exfB (K : PySem.W.Frag) (x : Str) : Bool := (He.Fa.glo x).ok K && (He.Fa.exc x).ok K
theorem exfB_ok {K : PySem.W.Frag} {h : Heap} {mg : Str → Option Value} {x : Str} (X : K.In h) (G : h.Ns mainGlobals mg) (q : exfB K x = true) : ExF K mg x := by
  unfold exfB at q
  rw [Bool.and_eq_true] at q
  obtain ⟨h1, h2, h3, h4⟩ := He.exc_ok q.2
  exact ⟨_, He.glo_ok X G q.1, h1, h2, h3, h4⟩
end DL


namespace DL
open PySem L2
def wp {α : Type} (o : Option α) (Q : α → Prop) : Prop := ∃ a, o = some a ∧ Q a
section
variable {α β : Type} {Q : α → Prop} {ρ : Env'} {σ : Env2} {S : Sh} {QD : D × Sh → Prop} {QT : Bool × Sh → Prop} {QN QA : List D × Sh → Prop} {QO : Out → Prop} {Q1 : D → Prop} {g : D → D → Option D} {g1 : D → Option D} {gc : List D → Option D}
  {a b c : DE} {t t' : DT} {da : DA} {dn : DN} {s1 s2 : DS} {keep : List Nat} {i j : Int} {n k : Nat} {x y z : D} {xs ys : List D} {u v w : Bool} {s s' : Str}
theorem wp_some {a : α} : wp (some a) Q = Q a := by simp [wp]
theorem wp_none : wp (none : Option α) Q = False := by simp [wp]
theorem wp_bind {o : Option α} {f : α → Option β} {Q : β → Prop} : wp (o.bind f) Q = wp o fun a => wp (f a) Q := by
  cases o <;> simp [wp]
theorem wp_map {o : Option α} {f : α → β} {Q : β → Prop} : wp (o.map f) Q = wp o fun a => Q (f a) := by
  cases o <;> simp [wp]
theorem wp_ite {c : Prop} [Decidable c] {a b : Option α} : wp (if c then a else b) Q = if c then wp a Q else wp b Q := by
  split <;> rfl
theorem wp_iteN {c : Prop} [Decidable c] {a : Option α} : wp (if c then a else none) Q = (c ∧ wp a Q) := by
  split <;> simp [wp, *]
theorem wp_mono {o : Option α} {Q Q' : α → Prop} (h : wp o Q) (k : ∀ a, Q a → Q' a) : wp o Q' := by
  obtain ⟨a, e, q⟩ := h
  exact ⟨a, e, k a q⟩
theorem wp_ok {o : Option α} {a : α} (h : o = some a) (q : Q a) : wp o Q := ⟨a, h, q⟩
theorem wp_eq {o : Option α} {a : α} (h : wp o (· = a)) : o = some a := by
  obtain ⟨b, e, q⟩ := h
  rw [e, q]
/-! ### looks -/
theorem dV_s {o : Option D} : dV (n + 1) (o :: ρ) S = dV n ρ S := by simp only [dV, List.getElem?_cons_succ]
theorem dV_z {d : D} : dV 0 (some d :: ρ) S = some (d, S) := rfl
theorem w_dC {d : D} : wp (dC d ρ S) QD = QD (d, S) := wp_some
theorem w_d2 : wp (d2 g a b ρ S) QD = wp (a ρ S) fun p => wp (b ρ p.2) fun q => wp (g p.1 q.1) fun r => QD (r, q.2) := by
  simp only [d2, wp_bind, wp_map]
theorem w_d1 : wp (d1 g1 a ρ S) QD = wp (a ρ S) fun p => wp (g1 p.1) fun r => QD (r, p.2) := by
  simp only [d1, wp_bind, wp_map]
theorem w_call : wp (dCall gc da ρ S) QD = wp (da ρ S) fun p => wp (gc p.1) fun r => QD (r, p.2) := by
  simp only [dCall, wp_bind, wp_map]
theorem w_nil : wp (dNil ρ S) QA = QA ([], S) := wp_some
theorem w_cons : wp (dCons a da ρ S) QA = wp (a ρ S) fun p => wp (da ρ p.2) fun q => QA (p.1 :: q.1, q.2) := by
  unfold dCons
  cases a ρ S with
  | none => simp [wp]
  | some p =>
    simp only [wp_some]
    cases da ρ p.2 <;> simp [wp]
theorem w_tup : wp (dTup da ρ S) QD = wp (da ρ S) fun p => p.1.length ≤ sizeLine ∧ QD (.tup p.1, p.2) := by
  simp only [dTup, w_call, tupO, wp_iteN, wp_some]
theorem w_nLst : wp (nLst da ρ S) QA = wp (da ρ S) fun p => p.1.length ≤ sizeLine ∧ QA p := by
  simp only [nLst, wp_bind, wp_iteN, wp_some]
theorem w_dFz : wp (dFz dn ρ S) QD = wp (dn ρ S) fun p => QD (.lst p.1, p.2) := by simp only [dFz, wp_map]
theorem w_nList : wp (nList a ρ S) QA = wp (a ρ S) fun p => wp (seqD p.1) fun ds => QA (ds, p.2) := by simp only [nList, wp_bind, wp_map]
theorem w_dFn {m : DF} : wp (dFn n m da ρ S) QD = wp (da ρ S) fun p => p.1.length = n ∧ wp (m p.1 p.2) QD := by
  simp only [dFn, wp_bind, wp_iteN]
theorem w_nFn {m : NF} : wp (nFn n m da ρ S) QA = wp (da ρ S) fun p => p.1.length = n ∧ wp (m p.1 p.2) QA := by
  simp only [nFn, wp_bind, wp_iteN]
theorem w_iRg {g : List D → Option (List D)} : wp (iRg g da ρ S) QA = wp (da ρ S) fun p => wp (g p.1) fun ds => QA (ds, p.2) := by simp only [iRg, wp_bind, wp_map]
theorem w_iSeq : wp (iSeq a ρ S) QA = wp (a ρ S) fun p => wp (itemsD p.1) fun ds => QA (ds, p.2) := by simp only [iSeq, wp_bind, wp_map]
theorem w_tYes : wp (dtYes ρ S) QT = QT (true, S) := wp_some
/-- a value that must be a bool -/
def isB (Q : Bool → Prop) : D → Prop
  | .bl k => Q k
  | _ => False
theorem isB_bl {Q : Bool → Prop} {k : Bool} : isB Q (.bl k) = Q k := rfl
theorem w_dtE : wp (dtE a ρ S) QT = wp (a ρ S) fun p => isB (fun k => QT (k, p.2)) p.1 := by
  simp only [dtE, wp_bind]
  congr 1
  funext p
  rcases p with ⟨x, S⟩
  cases x <;> simp [wp, isB]
theorem w_not : wp (dNot t ρ S) QT = wp (t ρ S) fun p => QT (!p.1, p.2) := by simp only [dNot, wp_map]
theorem w_and : wp (dAnd t t' ρ S) QT = wp (t ρ S) fun p => if p.1 then wp (t' ρ p.2) QT else QT (false, p.2) := by simp only [dAnd, wp_bind, wp_ite, wp_some]
theorem w_or : wp (dOr t t' ρ S) QT = wp (t ρ S) fun p => if p.1 then QT (true, p.2) else wp (t' ρ p.2) QT := by simp only [dOr, wp_bind, wp_ite, wp_some]
theorem w_andV : wp (dAndV a b ρ S) QD = wp (a ρ S) fun p => isB (fun k => if k then wp (b ρ p.2) QD else QD (.bl false, p.2)) p.1 := by
  simp only [dAndV, wp_bind]
  congr 1
  funext p
  rcases p with ⟨x, S⟩
  cases x with
  | bl k => cases k <;> simp [wp, isB]
  | _ => simp [wp, isB]
theorem w_orV : wp (dOrV a b ρ S) QD = wp (a ρ S) fun p => isB (fun k => if k then QD (.bl true, p.2) else wp (b ρ p.2) QD) p.1 := by
  simp only [dOrV, wp_bind]
  congr 1
  funext p
  rcases p with ⟨x, S⟩
  cases x with
  | bl k => cases k <;> simp [wp, isB]
  | _ => simp [wp, isB]
theorem w_ifE : wp (dIfE t a b ρ S) QD = wp (t ρ S) fun p => if p.1 then wp (a ρ p.2) QD else wp (b ρ p.2) QD := by simp only [dIfE, wp_bind, wp_ite]
/-! ### statements -/
def kSeq (b : DS) (Q : Out → Prop) : Out → Prop
  | .nx ρ S => wp (b ρ S) Q
  | o => Q o
theorem k_nx : kSeq s1 QO (.nx σ S) = wp (s1 σ S) QO := rfl
theorem k_rt : kSeq s1 QO (.rt x S) = QO (.rt x S) := rfl
theorem k_ex {ec : Ec} : kSeq s1 QO (.ex ec σ S) = QO (.ex ec σ S) := rfl
theorem k_ro : kSeq s1 QO (.ro xs S) = QO (.ro xs S) := rfl
theorem k_bk : kSeq s1 QO (.bk σ S) = QO (.bk σ S) := rfl
theorem k_ct : kSeq s1 QO (.ct σ S) = QO (.ct σ S) := rfl
theorem w_seq : wp (sSeq s1 s2 σ S) QO = wp (s1 σ S) (kSeq s2 QO) := by
  simp only [sSeq, wp_bind]
  congr 1
  funext o
  cases o <;> simp [kSeq, wp]
theorem w_pass : wp (sPass σ S) QO = QO (.nx σ S) := wp_some
theorem w_brk : wp (sBrk σ S) QO = QO (.bk σ S) := wp_some
theorem w_cnt : wp (sCnt σ S) QO = QO (.ct σ S) := wp_some
theorem w_if : wp (sIf keep t s1 s2 σ S) QO = wp (t (fzE keep 0 σ) S) fun p => chk keep p.2 = true ∧ if p.1 then wp (s1 σ p.2) QO else wp (s2 σ p.2) QO := by
  simp only [sIf, wp_bind, wp_ite, wp_none]
  congr 1
  funext p
  split <;> simp [*]
theorem w_ret : wp (sRet keep a σ S) QO = wp (a (fzE keep 0 σ) S) fun p => QO (.rt p.1 p.2) := by simp only [sRet, wp_map]
theorem w_retN : wp (sRetN σ S) QO = QO (.rt .non S) := wp_some
theorem sRetO_s {n : Nat} {o : Sl} {f : Env2} : wp (sRetO (n + 1) (o :: f) S) QO = wp (sRetO n f S) QO := by simp only [sRetO, List.getElem?_cons_succ]
theorem sRetO_z {f : Env2} : wp (sRetO 0 (.own xs :: f) S) QO = QO (.ro xs S) := wp_some
theorem w_setF : wp (sSetF keep n a σ S) QO = wp (a (fzE keep 0 σ) S) fun p => QO (.nx ((frz keep 0 σ).set n (.val p.1)) p.2) := by simp only [sSetF, wp_map]
theorem w_setP : wp (sSetP keep n a σ S) QO = wp (a (fzE keep 0 σ) S) fun p => (chk keep p.2 && (pureD p.1 || keep.isEmpty)) = true ∧ QO (.nx (σ.set n (.val p.1)) p.2) := by simp only [sSetP, wp_bind, wp_iteN, wp_some]
theorem w_exp : wp (sExp keep a σ S) QO = wp (a (fzE keep 0 σ) S) fun p => chk keep p.2 = true ∧ QO (.nx σ p.2) := by simp only [sExp, wp_bind, wp_iteN, wp_some]
theorem w_setO : wp (sSetO keep n dn σ S) QO = wp (dn (fzE keep 0 σ) S) fun p => QO (.nx ((frz keep 0 σ).set n (.own p.1)) p.2) := by simp only [sSetO, wp_map]
theorem w_share : wp (sShare keep n dn σ S) QO = wp (dn (fzE keep 0 σ) S) fun p => QO (.nx ((frz keep 0 σ).set n (.val (.ref p.2.length))) (p.2 ++ [p.1])) := by simp only [sShare, wp_map]
/-- an own list changed -/
def kOwn (o : List D → Option (List D)) (n : Nat) (ρ : Env2) (S : Sh) (Q : Out → Prop) : Prop := match ρ[n]? with
  | some (.own ds) => wp (o ds) fun ds' => Q (.nx (ρ.set n (.own ds')) S)
  | _ => False
theorem w_appO {o : List D → D → Option (List D)} : wp (appO o n σ x S) QO = kOwn (fun ds => o ds x) n σ S QO := by
  unfold appO kOwn
  cases σ[n]? with
  | none => simp [wp_none]
  | some s => cases s <;> simp [wp_none, wp_map]
theorem kOwn_eq {o : List D → Option (List D)} {ds : List D} (h : σ[n]? = some (.own ds)) : kOwn o n σ S QO = wp (o ds) fun ds' => QO (.nx (σ.set n (.own ds')) S) := by
  unfold kOwn
  rw [h]
theorem w_mutF {o : List D → D → Option (List D)} : wp (sMutF o keep n a σ S) QO = wp (a (fzE keep 0 σ) S) fun p => kOwn (fun ds => o ds p.1) n (frz keep 0 σ) p.2 QO := by simp only [sMutF, wp_bind, w_appO]
theorem w_mutP {o : List D → D → Option (List D)} : wp (sMutP o keep n a σ S) QO = wp (a (fzE keep 0 σ) S) fun p => (chk keep p.2 && (pureD p.1 || keep.isEmpty)) = true ∧ kOwn (fun ds => o ds p.1) n σ p.2 QO := by simp only [sMutP, wp_bind, wp_iteN, w_appO]
/-! ### frames -/
theorem fzE_c {s : Sl} {r : Env2} : fzE keep n (s :: r) = fz1 (keep.contains n) s :: fzE keep (n + 1) r := rfl
theorem fzE_n : fzE keep n [] = [] := rfl
theorem frz_c {s : Sl} {r : Env2} : frz keep n (s :: r) = frz1 (keep.contains n) s :: frz keep (n + 1) r := rfl
theorem frz_n : frz keep n [] = [] := rfl
theorem fz1_no : fz1 u .no = none := rfl
theorem fz1_val : fz1 u (.val x) = some x := rfl
theorem fz1_own : fz1 true (.own xs) = some (.lst xs) := rfl
theorem fz1_ownF : fz1 false (.own xs) = none := rfl
theorem frz1_no : frz1 u .no = .no := rfl
theorem frz1_val : frz1 u (.val x) = .val x := rfl
theorem frz1_own : frz1 true (.own xs) = .val (.lst xs) := rfl
theorem frz1_F {s : Sl} : frz1 false s = s := by cases s <;> rfl
theorem frz1_ownF : frz1 false (.own xs) = .own xs := rfl
theorem chk_nil : chk [] S = true := rfl
end
end DL


namespace DL
open PySem L2
section
variable {α β : Type} {Q : α → Prop} {ρ : Env'} {σ : Env2} {S : Sh} {QD : D × Sh → Prop} {QT : Bool × Sh → Prop} {QN QA : List D × Sh → Prop} {QO : Out → Prop} {Q1 : D → Prop} {g : D → D → Option D} {g1 : D → Option D} {gc : List D → Option D}
  {a b c : DE} {t t' : DT} {da : DA} {dn : DN} {s1 s2 : DS} {keep : List Nat} {i j : Int} {n k : Nat} {x y z : D} {xs ys : List D} {u v w : Bool} {s s' : Str}
/-! ### readings -/
theorem o_add : wp (addD (.int i) (.int j)) Q1 = Q1 (.int (i + j)) := wp_some
theorem o_addS : wp (addD (.str s) (.str s')) Q1 = (s.length + s'.length ≤ sizeLine ∧ Q1 (.str (s ++ s'))) := by simp only [addD, wp_iteN, wp_some]
theorem o_addL : wp (addD (.lst xs) (.lst ys)) Q1 = (xs.length + ys.length ≤ sizeLine ∧ Q1 (.lst (xs ++ ys))) := by simp only [addD, wp_iteN, wp_some]
theorem o_addT : wp (addD (.tup xs) (.tup ys)) Q1 = (xs.length + ys.length ≤ sizeLine ∧ Q1 (.tup (xs ++ ys))) := by simp only [addD, wp_iteN, wp_some]
theorem o_sub : wp (subD (.int i) (.int j)) Q1 = Q1 (.int (i - j)) := wp_some
theorem o_mul : wp (mulD (.int i) (.int j)) Q1 = (mulOk i j = true ∧ Q1 (.int (i * j))) := by simp only [mulD, wp_iteN, wp_some]
theorem o_fdiv : wp (fdivD (.int i) (.int j)) Q1 = ((j ≠ 0 ∧ j.natAbs.log2 < 9000) ∧ Q1 (.int (i.fdiv j))) := by simp only [fdivD, wp_iteN, wp_some]
theorem o_mod : wp (modD (.int i) (.int j)) Q1 = (j ≠ 0 ∧ Q1 (.int (i.fmod j))) := by simp only [modD, wp_iteN, wp_some]
theorem o_pow : wp (powD (.int i) (.int j)) Q1 = ((0 ≤ j ∧ j ≤ 1000000 ∧ i.natAbs < 2 ^ 64) ∧ Q1 (.int (i ^ j.toNat))) := by simp only [powD, wp_iteN, wp_some]
theorem o_shl : wp (shlD (.int i) (.int j)) Q1 = ((0 ≤ j ∧ j ≤ 1000000 ∧ i.natAbs < 2 ^ 64) ∧ Q1 (.int (i * 2 ^ j.toNat))) := by simp only [shlD, wp_iteN, wp_some]
theorem o_neg : wp (negD (.int i)) Q1 = Q1 (.int (-i)) := wp_some
theorem o_eq : wp (eqO x y) Q1 = ((eqOk 60 x = true ∧ eqOk 60 y = true) ∧ Q1 (.bl (eqD x y))) := by simp only [eqO, wp_iteN, wp_some]
theorem o_ne : wp (neO x y) Q1 = ((eqOk 60 x = true ∧ eqOk 60 y = true) ∧ Q1 (.bl (!eqD x y))) := by simp only [neO, wp_iteN, wp_some]
theorem o_eqI : wp (eqO (.int i) (.int j)) Q1 = Q1 (.bl (decide (i = j))) := by
  rw [o_eq]
  simp only [eqOk, eqD, and_self, true_and]
  rfl
theorem o_neI : wp (neO (.int i) (.int j)) Q1 = Q1 (.bl (!decide (i = j))) := by
  rw [o_ne]
  simp only [eqOk, eqD, and_self, true_and]
  rfl
theorem o_eqS : wp (eqO (.str s) (.str s')) Q1 = Q1 (.bl (s == s')) := by
  rw [o_eq]
  simp only [eqOk, eqD, and_self, true_and]
theorem o_neS : wp (neO (.str s) (.str s')) Q1 = Q1 (.bl (!(s == s'))) := by
  rw [o_ne]
  simp only [eqOk, eqD, and_self, true_and]
theorem o_eqB : wp (eqO (.bl u) (.bl v)) Q1 = Q1 (.bl (u == v)) := by
  rw [o_eq]
  simp only [eqOk, eqD, and_self, true_and]
theorem o_neB : wp (neO (.bl u) (.bl v)) Q1 = Q1 (.bl (!(u == v))) := by
  rw [o_ne]
  simp only [eqOk, eqD, and_self, true_and]
theorem o_lt : wp (ltO (.int i) (.int j)) Q1 = Q1 (.bl (decide (i < j))) := wp_some
theorem o_le : wp (leO (.int i) (.int j)) Q1 = Q1 (.bl (decide (i ≤ j))) := wp_some
theorem o_gt : wp (gtO (.int i) (.int j)) Q1 = Q1 (.bl (decide (j < i))) := wp_some
theorem o_ge : wp (geO (.int i) (.int j)) Q1 = Q1 (.bl (decide (j ≤ i))) := wp_some
theorem o_is : wp (isO x .non) Q1 = Q1 (.bl (isNon x)) := wp_some
theorem o_isn : wp (isnO x .non) Q1 = Q1 (.bl (!isNon x)) := wp_some
theorem o_in : wp (inO x y) Q1 = wp (inB x y) fun k => Q1 (.bl k) := by simp only [inO, wp_map]
theorem o_nin : wp (ninO x y) Q1 = wp (inB x y) fun k => Q1 (.bl (!k)) := by simp only [ninO, wp_map]
theorem o_inL {Q : Bool → Prop} : wp (inB x (.lst ys)) Q = ((eqOk 60 x = true ∧ eqOks 60 ys = true) ∧ Q (ys.any fun z => eqD z x)) := by simp only [inB, seqD, wp_iteN, wp_some]
theorem o_inT {Q : Bool → Prop} : wp (inB x (.tup ys)) Q = ((eqOk 60 x = true ∧ eqOks 60 ys = true) ∧ Q (ys.any fun z => eqD z x)) := by simp only [inB, seqD, wp_iteN, wp_some]
theorem o_inR {Q : Bool → Prop} : wp (inB x (.rol ys)) Q = ((eqOk 60 x = true ∧ eqOks 60 ys = true) ∧ Q (ys.any fun z => eqD z x)) := by simp only [inB, seqD, wp_iteN, wp_some]
theorem o_inS {Q : Bool → Prop} : wp (inB (.str s) (.str s')) Q = Q (strIn s s') := by simp only [inB, wp_some]
theorem o_idxL : wp (idxD (.lst xs) (.int i)) Q1 = wp (atI xs i) Q1 := rfl
theorem o_idxT : wp (idxD (.tup xs) (.int i)) Q1 = wp (atI xs i) Q1 := rfl
theorem o_idxR : wp (idxD (.rol xs) (.int i)) Q1 = wp (atI xs i) Q1 := rfl
theorem atI_nat {xs : List α} : atI xs (n : Int) = xs[n]? := by
  unfold atI ixN
  have e : ¬ ((n : Int) < 0) := by omega
  by_cases h : n < xs.length
  · simp [h, e]
  · simp [h, e, List.getElem?_eq_none (show xs.length ≤ n by omega)]
theorem o_abs : wp (absO [.int i]) Q1 = Q1 (.int (if i < 0 then -i else i)) := wp_some
theorem o_int : wp (intO [.int i]) Q1 = Q1 (.int i) := wp_some
theorem o_intB : wp (intO [.bl u]) Q1 = Q1 (.int (if u then 1 else 0)) := wp_some
theorem o_gcd : wp (gcdO [.int i, .int j]) Q1 = Q1 (.int ((Nat.gcd i.natAbs j.natAbs : Nat) : Int)) := wp_some
theorem o_tupL : wp (tupleO [.lst xs]) Q1 = Q1 (.tup xs) := wp_some
theorem o_tupT : wp (tupleO [.tup xs]) Q1 = Q1 (.tup xs) := wp_some
theorem o_tupR : wp (tupleO [.rol xs]) Q1 = Q1 (.tup xs) := wp_some
theorem o_bits : wp (bitsD (.int i)) Q1 = Q1 (.int (Builtin.Int.intBits i)) := wp_some
theorem is_non {ns : List String} : wp (isiD ns .non) Q1 = Q1 (.bl (ns.any fun n => isTy "NoneType" n)) := wp_some
theorem is_bl {ns : List String} : wp (isiD ns (.bl u)) Q1 = Q1 (.bl (ns.any fun n => isTy "bool" n)) := wp_some
theorem is_int {ns : List String} : wp (isiD ns (.int i)) Q1 = Q1 (.bl (ns.any fun n => isTy "int" n)) := wp_some
theorem is_str {ns : List String} : wp (isiD ns (.str s)) Q1 = Q1 (.bl (ns.any fun n => isTy "str" n)) := wp_some
theorem is_tup {ns : List String} : wp (isiD ns (.tup xs)) Q1 = Q1 (.bl (ns.any fun n => isTy "tuple" n)) := wp_some
theorem is_lst {ns : List String} : wp (isiD ns (.lst xs)) Q1 = Q1 (.bl (ns.any fun n => isTy "list" n)) := wp_some
theorem q_lst {Q : List D → Prop} : wp (seqD (.lst xs)) Q = Q xs := wp_some
theorem q_rol {Q : List D → Prop} : wp (seqD (.rol xs)) Q = Q xs := wp_some
theorem q_tup {Q : List D → Prop} : wp (seqD (.tup xs)) Q = Q xs := wp_some
theorem it_lst {Q : List D → Prop} : wp (itemsD (.lst xs)) Q = Q xs := wp_some
theorem it_rol {Q : List D → Prop} : wp (itemsD (.rol xs)) Q = Q xs := wp_some
theorem it_tup {Q : List D → Prop} : wp (itemsD (.tup xs)) Q = Q xs := wp_some
theorem it_str {Q : List D → Prop} : wp (itemsD (.str s)) Q = Q (s.cps.toList.map fun c => .str ⟨#[c]⟩) := wp_some
theorem rg1 {Q : List D → Prop} : wp (rng1O [.int j]) Q = ((-(2 ^ 62) ≤ j ∧ j < 2 ^ 62) ∧ Q (rngO 0 j.toNat)) := by simp only [rng1O, wp_iteN, wp_some]
theorem rg2 {Q : List D → Prop} : wp (rng2O [.int i, .int j]) Q = ((-(2 ^ 62) ≤ i ∧ i < 2 ^ 62 ∧ -(2 ^ 62) ≤ j ∧ j < 2 ^ 62) ∧ Q (rngO i (j - i).toNat)) := by simp only [rng2O, wp_iteN, wp_some]
theorem w_len : wp (dLen a ρ S) QD = wp (a ρ S) fun p => match p.1 with
  | .ref i => wp (p.2[i]?) fun ds => QD (.int ds.length, p.2)
  | x => wp (lenD x) fun z => QD (z, p.2) := by
  simp only [dLen, wp_bind]
  congr 1
  funext p
  rcases p with ⟨x, S⟩
  cases x <;> simp only [wp_map]
theorem l_lst : wp (lenD (.lst xs)) Q1 = Q1 (.int xs.length) := wp_some
theorem l_rol : wp (lenD (.rol xs)) Q1 = Q1 (.int xs.length) := wp_some
theorem l_tup : wp (lenD (.tup xs)) Q1 = Q1 (.int xs.length) := wp_some
theorem l_str : wp (lenD (.str s)) Q1 = (s.length ≤ sizeLine ∧ Q1 (.int s.length)) := by simp only [lenD, wp_iteN, wp_some]
theorem w_popS : wp (dPopS a ρ S) QD = wp (a ρ S) fun p => match p.1 with
  | .ref i => wp (p.2[i]?) fun ds => wp (ds[ds.length - 1]?) fun x => QD (x, p.2.set i ds.dropLast)
  | _ => False := by
  simp only [dPopS, wp_bind]
  congr 1
  funext p
  rcases p with ⟨x, S⟩
  cases x <;> simp only [wp_map, wp_none, wp_bind]
/-! ### functions -/
def kD (Q : D × Sh → Prop) : Out → Prop
  | .rt d S => Q (d, S)
  | .nx _ S => Q (.non, S)
  | .ro l S => Q (.lst l, S)
  | _ => False
theorem kD_rt : kD QD (.rt x S) = QD (x, S) := rfl
theorem kD_nx : kD QD (.nx σ S) = QD (.non, S) := rfl
theorem kD_ro : kD QD (.ro xs S) = QD (.lst xs, S) := rfl
def kN (Q : List D × Sh → Prop) : Out → Prop
  | .ro l S => Q (l, S)
  | _ => False
theorem kN_ro : kN QA (.ro xs S) = QA (xs, S) := rfl
theorem w_fnD {np n : Nat} {body : DS} : wp (fnD np n body xs S) QD = (xs.length = np ∧ wp (body (envOf n xs) S) (kD QD)) := by
  simp only [fnD, wp_iteN, wp_bind]
  congr 1
  congr 1
  funext o
  cases o <;> simp [outD, kD, wp]
theorem w_fnN {np n : Nat} {body : DS} : wp (fnN np n body xs S) QA = (xs.length = np ∧ wp (body (envOf n xs) S) (kN QA)) := by
  simp only [fnN, wp_iteN, wp_bind]
  congr 1
  congr 1
  funext o
  cases o <;> simp [outN, kN, wp]
/-! ### loops -/
theorem w_for {it : DN} {tg : Tg} {body : DS} : wp (sFor keep it tg body σ S) QO = wp (it (fzE keep 0 σ) S) fun p => wp (loopF tg body p.1 (frz keep 0 σ) p.2) QO := by simp only [sFor, wp_bind]
theorem w_forP {it : DN} {tg : Tg} {body : DS} : wp (sForP keep it tg body σ S) QO = wp (it (fzE keep 0 σ) S) fun p => chk keep p.2 = true ∧ wp (loopF tg body p.1 σ p.2) QO := by simp only [sForP, wp_bind, wp_iteN]
/-- a loop over one name, by invariant: what is done, what is left -/
theorem loop_n {body : DS} {n : Nat} (I : List D → Env2 → Sh → Prop) (QO : Out → Prop) :
    ∀ (xs : List D) (σ : Env2) (S : Sh), I xs σ S →
    (∀ x r σ S, I (x :: r) σ S → wp (body (σ.set n (.val x)) S) fun o => match o with
      | .nx σ' S' => I r σ' S'
      | .ct σ' S' => I r σ' S'
      | .bk σ' S' => QO (.nx σ' S')
      | o => QO o) → (∀ σ S, I [] σ S → QO (.nx σ S)) → wp (loopF (.n n) body xs σ S) QO
  | [], σ, S, h, hb, he => wp_ok rfl (he σ S h)
  | x :: r, σ, S, h, hb, he => by
    rw [loopF, bindT, Option.bind_some, wp_bind]
    refine wp_mono (hb x r σ S h) fun o q => ?_
    cases o with
    | nx σ' S' => exact loop_n I QO r σ' S' q hb he
    | ct σ' S' => exact loop_n I QO r σ' S' q hb he
    | bk σ' S' => exact wp_ok rfl q
    | rt d S' => exact wp_ok rfl q
    | ro d S' => exact wp_ok rfl q
    | ex c ρ' S' => exact wp_ok rfl q
theorem w_comp {it : DN} {tg : Tg} {vs : List Nat} {tt : DT} {el : DE} : wp (nComp it tg vs tt el ρ S) QA = wp (it ρ S) fun p => wp (loopC tg tt el (wipeD ρ vs) p.1 [] p.2) QA := by simp only [nComp, wp_bind]
theorem comp_map {tg : Tg} {tt : DT} {el : DE} (f : D → D) : ∀ (xs acc : List D), (∀ d, d ∈ xs → ∃ u, bindT tg d = some u ∧ tt (putD ρ u) S = some (true, S) ∧ el (putD ρ u) S = some (f d, S)) → acc.length + xs.length ≤ sizeLine →
    loopC tg tt el ρ xs acc S = some (acc ++ xs.map f, S)
  | [], acc, h, l => by simp [loopC]
  | d :: r, acc, h, l => by
    obtain ⟨u, e1, e2, e3⟩ := h d (by simp)
    simp only [List.length_cons] at l
    rw [loopC, e1, Option.bind_some, e2, Option.bind_some]
    simp only [if_true, e3, Option.bind_some]
    rw [if_pos (by omega), comp_map f r _ (fun d hd => h d (by simp [hd])) (by simp; omega)]
    simp
theorem comp_filter {tg : Tg} {tt : DT} {el : DE} (f : D → D) (p : D → Bool) : ∀ (xs acc : List D), (∀ d, d ∈ xs → ∃ u, bindT tg d = some u ∧ tt (putD ρ u) S = some (p d, S) ∧ (p d = true → el (putD ρ u) S = some (f d, S))) → acc.length + xs.length ≤ sizeLine →
    loopC tg tt el ρ xs acc S = some (acc ++ (xs.filter p).map f, S)
  | [], acc, h, l => by simp [loopC]
  | d :: r, acc, h, l => by
    obtain ⟨u, e1, e2, e3⟩ := h d (by simp)
    simp only [List.length_cons] at l
    rw [loopC, e1, Option.bind_some, e2, Option.bind_some]
    by_cases hp : p d = true
    · simp only [hp, if_true, e3 hp, Option.bind_some]
      rw [if_pos (by omega), comp_filter f p r _ (fun d hd => h d (by simp [hd])) (by simp; omega)]
      simp [hp]
    · simp only [hp, if_false, Bool.false_eq_true]
      rw [comp_filter f p r _ (fun d hd => h d (by simp [hd])) (by omega)]
      simp [hp]
/-- with a store: by invariant -/
theorem comp_inv {tg : Tg} {tt : DT} {el : DE} (I : List D → List D → Sh → Prop) : ∀ (xs acc : List D) (S : Sh), I xs acc S → (∀ d r acc S, I (d :: r) acc S → ∃ u, bindT tg d = some u ∧ wp (tt (putD ρ u) S) fun p =>
    if p.1 then wp (el (putD ρ u) p.2) fun q => acc.length < sizeLine ∧ I r (acc ++ [q.1]) q.2 else I r acc p.2) → (∀ acc S, I [] acc S → QA (acc, S)) → wp (loopC tg tt el ρ xs acc S) QA
  | [], acc, S, i, h, e => wp_ok rfl (e acc S i)
  | d :: r, acc, S, i, h, e => by
    obtain ⟨u, e1, e2⟩ := h d r acc S i
    rw [loopC, e1, Option.bind_some, wp_bind]
    refine wp_mono e2 fun p hp => ?_
    split at hp
    · rename_i q
      simp only [q, if_true, wp_bind]
      refine wp_mono hp fun z hz => ?_
      rw [if_pos hz.1]
      exact comp_inv I r _ _ hz.2 h e
    · rename_i q
      simp only [q, if_false, Bool.false_eq_true]
      exact comp_inv I r _ _ hp h e
theorem w_own0 {o : List D → List D} : wp (sOwn0 o n σ S) QO = kOwn (fun ds => some (o ds)) n σ S QO := by
  unfold sOwn0 kOwn
  cases σ[n]? with
  | none => simp [wp_none]
  | some s => cases s <;> simp [wp_none, wp_some]
/-- an item of an own list stored -/
def kSetI (n : Nat) (σ : Env2) (x : D) (ix : D) (S : Sh) (QO : Out → Prop) : Prop := wp (setIO n σ x ix S) QO
theorem kSetI_eq {ds : List D} (h : σ[n]? = some (.own ds)) (hk : k < ds.length) : kSetI n σ x (.int (k : Int)) S QO = QO (.nx (σ.set n (.own (ds.set k x))) S) := by
  unfold kSetI setIO
  rw [h]
  have e : ¬ ((k : Int) < 0) := by omega
  simp [ixN, hk, e, wp_some, wp_map]
theorem w_setIP {keep2 : List Nat} {ix : DE} : wp (sSetIP keep keep2 n a ix σ S) QO = wp (a (fzE keep 0 σ) S) fun p => (chk keep p.2 && (pureD p.1 || keep.isEmpty)) = true ∧ wp (ix (fzE keep2 0 σ) p.2) fun q => chk keep2 q.2 = true ∧ kSetI n σ p.1 q.1 q.2 QO := by
  simp only [sSetIP, wp_bind, wp_iteN, kSetI]
end
end DL


namespace DL
open PySem L2
section
variable {ρ : Env'} {σ : Env2} {S : Sh} {QO : Out → Prop} {a : DE} {keep : List Nat} {n : Nat} {x : D} {xs : List D} {tg : Tg} {gs : List Tg} {QU : List (Nat × D) → Prop} {u : List (Nat × D)} {Q : List D → Prop}
theorem ite_F {c P : Prop} [Decidable c] : (if c then P else False) = (c ∧ P) := by split <;> simp [*]
theorem w_setT : wp (sSetT keep tg a σ S) QO = wp (a (fzE keep 0 σ) S) fun p => wp (bindT tg p.1) fun u => QO (.nx (putS (frz keep 0 σ) u) p.2) := by simp only [sSetT, wp_bind, wp_map]
theorem b_n : wp (bindT (.n n) x) QU = QU [(n, x)] := by rw [bindT, wp_some]
theorem b_t : wp (bindT (.t gs) (.tup xs)) QU = wp (bindTs gs xs) QU := by rw [bindT]
theorem b_nil : wp (bindTs [] []) QU = QU [] := by rw [bindTs, wp_some]
theorem b_cons : wp (bindTs (tg :: gs) (x :: xs)) QU = wp (bindT tg x) fun u => wp (bindTs gs xs) fun w => QU (u ++ w) := by rw [bindTs, wp_bind]; simp only [wp_map]
theorem putS_n : putS σ [] = σ := rfl
theorem putS_c : putS σ ((n, x) :: u) = putS (σ.set n (.val x)) u := rfl
theorem o_at0 {Q : D → Prop} : wp (atI (x :: xs) 0) Q = Q x := by
  rw [show (0 : Int) = ((0 : Nat) : Int) from rfl, DL.atI_nat]; exact wp_some
theorem o_at1 {x0 : D} {Q : D → Prop} : wp (atI (x0 :: x :: xs) 1) Q = Q x := by
  rw [show (1 : Int) = ((1 : Nat) : Int) from rfl, DL.atI_nat]; exact wp_some
theorem o_at2 {x0 x1 : D} {Q : D → Prop} : wp (atI (x0 :: x1 :: x :: xs) 2) Q = Q x := by
  rw [show (2 : Int) = ((2 : Nat) : Int) from rfl, DL.atI_nat]; exact wp_some
theorem o_at3 {x0 x1 x2 : D} {Q : D → Prop} : wp (atI (x0 :: x1 :: x2 :: x :: xs) 3) Q = Q x := by
  rw [show (3 : Int) = ((3 : Nat) : Int) from rfl, DL.atI_nat]; exact wp_some
theorem o_at4 {x0 x1 x2 x3 : D} {Q : D → Prop} : wp (atI (x0 :: x1 :: x2 :: x3 :: x :: xs) 4) Q = Q x := by
  rw [show (4 : Int) = ((4 : Nat) : Int) from rfl, DL.atI_nat]; exact wp_some
theorem w_append : wp (appendO xs x) Q = (xs.length < sizeLine ∧ Q (xs ++ [x])) := by simp only [appendO, wp_iteN, wp_some]
/-! ### loops over lists known to their length -/
def kLoop (tg : Tg) (body : DS) (xs : List D) (Q : Out → Prop) : Out → Prop
  | .nx ρ S => wp (loopF tg body xs ρ S) Q
  | .ct ρ S => wp (loopF tg body xs ρ S) Q
  | .bk ρ S => Q (.nx ρ S)
  | o => Q o
variable {body : DS} {QA : List D × Sh → Prop} {tt : DT} {el : DE} {acc : List D}
theorem kL_nx : kLoop tg body xs QO (.nx σ S) = wp (loopF tg body xs σ S) QO := rfl
theorem kL_ct : kLoop tg body xs QO (.ct σ S) = wp (loopF tg body xs σ S) QO := rfl
theorem kL_bk : kLoop tg body xs QO (.bk σ S) = QO (.nx σ S) := rfl
theorem kL_rt {d : D} : kLoop tg body xs QO (.rt d S) = QO (.rt d S) := rfl
theorem kL_ex {ec : Ec} : kLoop tg body xs QO (.ex ec σ S) = QO (.ex ec σ S) := rfl
theorem kL_ro {d : List D} : kLoop tg body xs QO (.ro d S) = QO (.ro d S) := rfl
theorem lp_n : wp (loopF tg body [] σ S) QO = QO (.nx σ S) := wp_some
theorem lp_c : wp (loopF tg body (x :: xs) σ S) QO = wp (bindT tg x) fun u => wp (body (putS σ u) S) (kLoop tg body xs QO) := by
  rw [loopF, wp_bind]
  congr 1
  funext u
  rw [wp_bind]
  congr 1
  funext o
  cases o <;> simp [kLoop, wp]
theorem lc_n : wp (loopC tg tt el ρ [] acc S) QA = QA (acc, S) := wp_some
theorem lc_c : wp (loopC tg tt el ρ (x :: xs) acc S) QA = wp (bindT tg x) fun u => wp (tt (putD ρ u) S) fun p => if p.1 then wp (el (putD ρ u) p.2) fun q => acc.length < sizeLine ∧ wp (loopC tg tt el ρ xs (acc ++ [q.1]) q.2) QA else wp (loopC tg tt el ρ xs acc p.2) QA := by
  rw [loopC, wp_bind]
  simp only [wp_bind, wp_ite, wp_none, ite_F]
theorem putD_n : putD ρ [] = ρ := rfl
theorem putD_c : putD ρ ((n, x) :: u) = putD (ρ.set n (some x)) u := rfl
theorem wipe_n : wipeD ρ [] = ρ := rfl
theorem wipe_c {vs : List Nat} : wipeD ρ (n :: vs) = (wipeD ρ vs).set n none := rfl
end
end DL


namespace DL
open PySem L2
section
variable {ρ : Env'} {σ : Env2} {S : Sh} {QO : Out → Prop} {QD : D × Sh → Prop} {QA : List D × Sh → Prop} {Q1 : D → Prop} {a : DE} {dn : DN} {dl : DA} {keep : List Nat} {n : Nat} {x y : D} {xs ys : List D} {s s' : Str} {i j : Int} {lo hi : DO} {Qo : Option Int × Sh → Prop} {Q : List D → Prop} {g : List D → List D → Option (List D)}
theorem w_oNo : wp (oNo ρ S) Qo = Qo (none, S) := wp_some
/-- a value that must be an int -/
def isI (Q : Int → Prop) : D → Prop
  | .int k => Q k
  | _ => False
theorem isI_int {Q : Int → Prop} : isI Q (.int i) = Q i := rfl
theorem w_oPart : wp (oPart a ρ S) Qo = wp (a ρ S) fun p => isI (fun k => Qo (some k, p.2)) p.1 := by
  simp only [oPart, wp_bind]
  congr 1
  funext p
  rcases p with ⟨x, S⟩
  cases x <;> simp [wp, isI]
theorem w_dSl : wp (dSl a lo hi ρ S) QD = wp (a ρ S) fun p => wp (lo ρ p.2) fun q => wp (hi ρ q.2) fun r => wp (sliceD p.1 q.1 r.1) fun z => QD (z, r.2) := by simp only [dSl, wp_bind, wp_map]
theorem o_slL {l u : Option Int} : wp (sliceD (.lst xs) l u) Q1 = Q1 (.lst (cutD xs l u)) := wp_some
theorem o_slR {l u : Option Int} : wp (sliceD (.rol xs) l u) Q1 = Q1 (.lst (cutD xs l u)) := wp_some
theorem o_slT {l u : Option Int} : wp (sliceD (.tup xs) l u) Q1 = Q1 (.tup (cutD xs l u)) := wp_some
theorem o_slS {l u : Option Int} : wp (sliceD (.str s) l u) Q1 = (s.length ≤ sizeLine ∧ Q1 (.str (cutS s l u))) := by simp only [sliceD, wp_iteN, wp_some]
theorem o_any : wp (anyO [.lst xs]) Q1 = wp (blsOf xs) fun bs => Q1 (.bl (bs.any id)) := by simp only [anyO, wp_map]
theorem o_all : wp (allO [.lst xs]) Q1 = wp (blsOf xs) fun bs => Q1 (.bl (bs.all id)) := by simp only [allO, wp_map]
theorem o_joinL : wp (joinO (.str s) (.lst xs)) Q1 = wp (strsOf xs) fun ys => (ys.map (·.length)).sum + ys.length * s.length ≤ 16777216 ∧ Q1 (.str (Txt.join s ys)) := by simp only [joinO, seqD, Option.bind_some, wp_bind, wp_iteN, wp_some]
theorem o_max2 : wp (maxO [.int i, .int j]) Q1 = Q1 (.int (if j > i then j else i)) := wp_some
theorem o_min2 : wp (minO [.int i, .int j]) Q1 = Q1 (.int (if j < i then j else i)) := wp_some
theorem o_maxL : wp (maxO [.lst xs]) Q1 = wp (intsOf xs) fun ns => wp ns.max? fun m => Q1 (.int m) := by simp only [maxO, wp_bind, wp_map]
theorem o_mulXS : wp (mulXD (.str s) (.int i)) Q1 = ((2 ≤ i ∧ i < 16777216 ∧ 0 < s.length ∧ s.length * i.toNat ≤ sizeLine) ∧ Q1 (.str (repS s i.toNat))) := by simp only [mulXD, wp_iteN, wp_some]
theorem w_setOP : wp (sSetOP keep n dn σ S) QO = wp (dn (fzE keep 0 σ) S) fun p => (chk keep p.2 && pureDs p.1) = true ∧ QO (.nx (σ.set n (.own p.1)) p.2) := by simp only [sSetOP, wp_bind, wp_iteN, wp_some]
theorem w_mutA : wp (mutA g n σ xs S) QO = kOwn (fun ds => g ds xs) n σ S QO := by
  unfold mutA kOwn
  cases σ[n]? with
  | none => simp [wp_none]
  | some s => cases s <;> simp [wp_none, wp_map]
theorem w_mutAF : wp (sMutAF g keep n dl σ S) QO = wp (dl (fzE keep 0 σ) S) fun p => kOwn (fun ds => g ds p.1) n (frz keep 0 σ) p.2 QO := by simp only [sMutAF, wp_bind, w_mutA]
theorem w_mutAP : wp (sMutAP g keep n dl σ S) QO = wp (dl (fzE keep 0 σ) S) fun p => (chk keep p.2 && pureDs p.1) = true ∧ kOwn (fun ds => g ds p.1) n σ p.2 QO := by simp only [sMutAP, wp_bind, wp_iteN, w_mutA]
theorem o_ins : wp (insertO xs [.int i, x]) Q = ((xs.length < sizeLine ∧ 0 ≤ i ∧ i < 2 ^ 62) ∧ Q (xs.take i.toNat ++ [x] ++ xs.drop i.toNat)) := by simp only [insertO, wp_iteN, wp_some]
theorem o_ext : wp (extendO xs [.lst ys]) Q = (xs.length + ys.length ≤ sizeLine ∧ Q (xs ++ ys)) := by simp only [extendO, wp_iteN, wp_some]
theorem o_extT : wp (extendO xs [.tup ys]) Q = (xs.length + ys.length ≤ sizeLine ∧ Q (xs ++ ys)) := by simp only [extendO, wp_iteN, wp_some]
end
end DL


namespace DL
open PySem L2
section
variable {α : Type} {ρ : Env'} {σ : Env2} {S : Sh} {QO : Out → Prop} {QD : D × Sh → Prop} {QA : List D × Sh → Prop} {Q1 : D → Prop} {a b : DE} {dn : DN} {dl : DA} {keep : List Nat} {n m j k : Nat} {x y : D} {xs ys : List D} {s s' : Str} {i : Int} {QL : List D → Prop} {mf : DF} {body : DS}
theorem w_retF : wp (sRetF keep dn σ S) QO = wp (dn (fzE keep 0 σ) S) fun p => QO (.ro p.1 p.2) := by simp only [sRetF, wp_map]
def addLO : D → D → Option (List D)
  | .lst xs, .lst ys => if xs.length + ys.length ≤ sizeLine then some (xs ++ ys) else none
  | _, _ => none
theorem w_nAdd : wp (nAdd a b ρ S) QA = wp (a ρ S) fun p => wp (b ρ p.2) fun q => wp (addLO p.1 q.1) fun r => QA (r, q.2) := by
  simp only [nAdd, wp_bind]
  congr 1
  funext p
  congr 1
  funext q
  rcases p with ⟨x, S1⟩
  rcases q with ⟨y, S2⟩
  cases x <;> cases y <;> simp only [addLO, wp_none, wp_iteN, wp_some]
theorem o_addLO : wp (addLO (.lst xs) (.lst ys)) QL = (xs.length + ys.length ≤ sizeLine ∧ QL (xs ++ ys)) := by simp only [addLO, wp_iteN, wp_some]
theorem w_sort : wp (nSort a ρ S) QA = wp (a ρ S) fun p => wp (lstD p.1) fun ds => srtOk ds = true ∧ QA (sortD ds, p.2) := by simp only [nSort, wp_bind, wp_iteN, wp_some]
theorem w_sortK : wp (nSortK mf a ρ S) QA = wp (a ρ S) fun p => wp (lstD p.1) fun ds => wp (keysD mf ds p.2) fun q => keyOk q.1 = true ∧ QA (sortK ds q.1, q.2) := by simp only [nSortK, wp_bind, wp_iteN, wp_some]
theorem q_lstL : wp (lstD (.lst xs)) QL = QL xs := wp_some
theorem q_lstR : wp (lstD (.rol xs)) QL = QL xs := wp_some
theorem w_iRev : wp (iRev a ρ S) QA = wp (a ρ S) fun p => wp (seqD p.1) fun ds => QA (ds.reverse, p.2) := by simp only [iRev, wp_bind, wp_map]
theorem w_tupRev : wp (dTupRev a ρ S) QD = wp (a ρ S) fun p => wp (lstD p.1) fun ds => QD (.tup ds.reverse, p.2) := by simp only [dTupRev, wp_bind, wp_map]
theorem o_str : wp (strO [.int i]) Q1 = (i.natAbs.log2 < 1920 ∧ Q1 (.str (toString i))) := by simp only [strO, wp_iteN, wp_some]
theorem w_fnDd {np : Nat} : wp (fnDd np n body xs S) QD = wp (fnD np n body xs S) fun p => (plainD p.1 && plainSh (p.2.take S.length)) = true ∧ QD (p.1, p.2.take S.length) := by simp only [fnDd, wp_bind, wp_iteN, wp_some]
/-! own lists, by looking -/
theorem kOwn_o {o : List D → Option (List D)} : kOwn o n σ S QO = match σ[n]? with
  | some (.own ds) => wp (o ds) fun ds' => QO (.nx (σ.set n (.own ds')) S)
  | _ => False := rfl
def kPopT (n j : Nat) (σ : Env2) (as : List D) (S : Sh) (Q : Out → Prop) : Prop := match σ[n]? with
  | some (.own ds) => wp (popAt ds as) fun p => Q (.nx ((σ.set n (.own p.2)).set j (.val p.1)) S)
  | _ => False
def kPopX (n : Nat) (σ : Env2) (as : List D) (S : Sh) (Q : Out → Prop) : Prop := match σ[n]? with
  | some (.own ds) => wp (popAt ds as) fun p => Q (.nx (σ.set n (.own p.2)) S)
  | _ => False
theorem w_popT : wp (sPopT keep n j dl σ S) QO = wp (dl (fzE keep 0 σ) S) fun p => (chk keep p.2 && pureDs p.1) = true ∧ kPopT n j σ p.1 p.2 QO := by
  simp only [sPopT, wp_bind, wp_iteN, popT, kPopT]
  congr 1
  funext p
  congr 1
  cases σ[n]? with
  | none => simp [wp_none]
  | some s => cases s <;> simp [wp_none, wp_map]
theorem w_popX : wp (sPopX keep n dl σ S) QO = wp (dl (fzE keep 0 σ) S) fun p => (chk keep p.2 && pureDs p.1) = true ∧ kPopX n σ p.1 p.2 QO := by
  simp only [sPopX, wp_bind, wp_iteN, popX, kPopX]
  congr 1
  funext p
  congr 1
  cases σ[n]? with
  | none => simp [wp_none]
  | some s => cases s <;> simp [wp_none, wp_map]
theorem ixN_nat {n k : Nat} : ixN n (k : Int) = if k < n then some k else none := by
  unfold ixN
  rw [if_pos (by omega)]
  by_cases h : k < n
  · rw [if_pos (by omega), if_pos h]
    simp
  · rw [if_neg (by omega), if_neg h]
theorem o_popAt {Q : D × List D → Prop} (h : k < xs.length) (hl : xs.length ≤ sizeLine) : wp (popAt xs [.int (k : Int)]) Q = Q (xs[k], xs.eraseIdx k) := by
  have : k < 16777216 := by unfold sizeLine at hl; omega
  simp only [popAt]
  rw [if_pos (by omega), ixN_nat, if_pos h, Option.bind_some, List.getElem?_eq_getElem h, Option.map_some, wp_some]
theorem kSetI_o {ix : D} : kSetI n σ x ix S QO = match σ[n]?, ix with
  | some (.own ds), .int z => wp (ixN ds.length z) fun k => QO (.nx (σ.set n (.own (ds.set k x))) S)
  | _, _ => False := by
  unfold kSetI setIO
  cases σ[n]? with
  | none => cases ix <;> simp [wp_none]
  | some s => cases s <;> cases ix <;> simp [wp_none, wp_map]
theorem o_ixN {Q : Nat → Prop} (h : k < n) : wp (ixN n (k : Int)) Q = Q k := by rw [ixN_nat, if_pos h, wp_some]
theorem w_popI : wp (dPopI a dl ρ S) QD = wp (a ρ S) fun p => match p.1 with
  | .ref i => wp (dl ρ p.2) fun q => wp (q.2[i]?) fun ds => wp (popAt ds q.1) fun r => QD (r.1, q.2.set i r.2)
  | _ => False := by
  simp only [dPopI, wp_bind]
  congr 1
  funext p
  rcases p with ⟨x, S⟩
  cases x <;> first | rfl | (simp only [wp_map, wp_none, wp_bind]; done) | exact wp_none
theorem o_atN {Q : α → Prop} {xs : List α} : wp (atI xs (k : Int)) Q = wp xs[k]? Q := by rw [DL.atI_nat]
theorem o_get {Q : α → Prop} {xs : List α} (h : k < xs.length) : wp xs[k]? Q = Q xs[k] := by rw [List.getElem?_eq_getElem h, wp_some]
def lenS : D → Sh → Option D
  | .ref i, S => (S[i]?).map fun ds => .int ds.length
  | x, _ => lenD x
theorem w_lenS : wp (dLen a ρ S) QD = wp (a ρ S) fun p => wp (lenS p.1 p.2) fun z => QD (z, p.2) := by
  rw [w_len]
  congr 1
  funext p
  rcases p with ⟨x, S⟩
  cases x <;> simp only [lenS, wp_map]
theorem ls_ref : wp (lenS (.ref n) S) Q1 = wp (S[n]?) fun ds => Q1 (.int ds.length) := by simp only [lenS, wp_map]
theorem ls_lst : wp (lenS (.lst xs) S) Q1 = Q1 (.int xs.length) := l_lst
theorem ls_rol : wp (lenS (.rol xs) S) Q1 = Q1 (.int xs.length) := l_rol
theorem ls_tup : wp (lenS (.tup xs) S) Q1 = Q1 (.int xs.length) := l_tup
theorem ls_str : wp (lenS (.str s) S) Q1 = (s.length ≤ sizeLine ∧ Q1 (.int s.length)) := l_str
theorem keysD_map {f : D → D} : ∀ {ds : List D}, (∀ d ∈ ds, mf [d] S = some (f d, S)) → keysD mf ds S = some (ds.map f, S)
  | [], _ => rfl
  | d :: ds, h => by
    rw [keysD, h d (by simp), Option.bind_some, keysD_map fun x hx => h x (by simp [hx])]
    rfl
theorem sortK_map (f : D → D) (ds : List D) : sortK ds (ds.map f) = ds.mergeSort fun a b => !ltD (f b) (f a) := by
  unfold sortK
  have e : ds.zip (ds.map f) = ds.map fun d => (d, f d) := by
    induction ds with
    | nil => rfl
    | cons d ds ih => simp [ih]
  rw [e, ← PySem.W.sort_maps (r := fun a b => !ltD (f b) (f a)) (s := fun a b : D × D => !ltD b.2 a.2) (fun d => (d, f d)) (fun a _ b _ => rfl), List.map_map]
  exact List.map_id _
end
end DL


/-! PL5: words, values, rows, places, facts as data -/
namespace DL
open PySem L2
/-! ### texts -/
def lets : Str := "abcdefghijklmnopqrstuvwxyz"
def isLet (c : Nat) : Bool := decide (c ∈ lets.cps.toList)
def isW (s : Str) : Bool := !(s == ("" : Str)) && s.cps.toList.all isLet
theorem len_cps (s : Str) : s.cps.toList.length = s.length := by simp [Str.length]
theorem str_ext {x y : Str} (h : x.cps.toList = y.cps.toList) : x = y := PySem.W.str_of_cps h
theorem isW_iff {s : Str} : isW s = true ↔ s.cps.toList ≠ [] ∧ ∀ c ∈ s.cps.toList, isLet c = true := by
  unfold isW
  rw [Bool.and_eq_true, List.all_eq_true, Bool.not_eq_true', beq_eq_false_iff_ne]
  refine and_congr ⟨fun h e => h ?_, fun h e => h ?_⟩ Iff.rfl
  · exact str_ext e
  · subst e
    rfl
theorem isW_of {s : Str} (h : s.cps.toList ≠ []) (h2 : ∀ c ∈ s.cps.toList, isLet c = true) : isW s = true := isW_iff.2 ⟨h, h2⟩
theorem joinL_nil : ∀ (ps : List (List Nat)), TL.joinL [] ps = ps.flatten
  | [] => rfl
  | [p] => by simp [TL.joinL]
  | p :: q :: r => by
    rw [TL.joinL, joinL_nil (q :: r)]
    simp
theorem join_cps (ys : List Str) : (Txt.join ("" : Str) ys).cps.toList = (ys.map fun y => y.cps.toList).flatten := by
  rw [show Txt.join ("" : Str) ys = Str.join ("" : Str) ys from StrLaws.glued_eq_join _ ys]
  exact (TL.tl_join ("" : Str) ys).trans (joinL_nil _)
theorem app_cps (x y : Str) : (x ++ y : Str).cps.toList = x.cps.toList ++ y.cps.toList := Array.toList_append
theorem app_len (x y : Str) : (x ++ y : Str).length = x.length + y.length := by rw [← len_cps, app_cps, List.length_append, len_cps, len_cps]
theorem join_len (ys : List Str) : (Txt.join ("" : Str) ys).length = (ys.map (·.length)).sum := by
  rw [← len_cps, join_cps]
  induction ys with
  | nil => rfl
  | cons y ys ih => rw [List.map_cons, List.flatten_cons, List.length_append, ih, len_cps, List.map_cons, List.sum_cons]
theorem isW_app {x y : Str} (h : isW x = true) (h' : ∀ c ∈ y.cps.toList, isLet c = true) : isW (x ++ y) = true := by
  obtain ⟨h1, h2⟩ := isW_iff.1 h
  refine isW_of (by rw [app_cps]; simp [h1]) fun c hc => ?_
  rw [app_cps] at hc
  rcases List.mem_append.1 hc with hc | hc
  · exact h2 c hc
  · exact h' c hc
theorem isW_join {ys : List Str} (h : ys ≠ []) (hy : ∀ y ∈ ys, isW y = true) : isW (Txt.join ("" : Str) ys) = true := by
  refine isW_of (fun z => ?_) fun c hc => ?_
  · rw [join_cps] at z
    cases ys with
    | nil => exact h rfl
    | cons y ys =>
      rw [List.map_cons, List.flatten_cons, List.append_eq_nil_iff] at z
      exact (isW_iff.1 (hy y (by simp))).1 z.1
  · rw [join_cps] at hc
    obtain ⟨p, hp, hc⟩ := List.mem_flatten.1 hc
    obtain ⟨y, hy', rfl⟩ := List.mem_map.1 hp
    exact (isW_iff.1 (hy y hy')).2 c hc
def letS (c : Nat) : Str := ⟨#[c]⟩
theorem isW_let {c : Nat} (h : isLet c = true) : isW (letS c) = true := isW_of (by simp [letS]) fun d hd => by
  have : d = c := by simpa [letS] using hd
  rw [this]; exact h
theorem len_let (c : Nat) : (letS c).length = 1 := rfl
theorem foldl_cps (c : Array Nat) : ∀ (n : Nat) (a : Array Nat), ((List.replicate n c).foldl (· ++ ·) a).toList = a.toList ++ (List.replicate n c.toList).flatten
  | 0, a => by simp
  | n + 1, a => by
    rw [List.replicate_succ, List.foldl_cons, foldl_cps c n, Array.toList_append, List.replicate_succ, List.flatten_cons, List.append_assoc]
theorem rep_cps (x : Str) (n : Nat) : (repS x n).cps.toList = (List.replicate n x.cps.toList).flatten := (foldl_cps _ n #[]).trans (by simp)
theorem isW_rep {n : Nat} (hn : 0 < n) : isW (repS ("z" : Str) n) = true := by
  have e : (repS ("z" : Str) n).cps.toList = (List.replicate n [122]).flatten := rep_cps _ n
  refine isW_of (fun z => ?_) fun d hd => ?_
  · rw [e] at z
    cases n with
    | zero => omega
    | succ n => simp [List.replicate_succ] at z
  · rw [e] at hd
    simp only [List.mem_flatten, List.mem_replicate] at hd
    obtain ⟨x, ⟨_, rfl⟩, hx⟩ := hd
    rw [List.mem_singleton.1 hx]
    decide
theorem str_beq (x y : Str) : (x == y) = decide (x = y) := by
  by_cases h : x = y
  · subst h; simp
  · simp [h]
/-! ### values -/
inductive Val where
  | i (n : Int) | w (s : Str)
  deriving DecidableEq
def Val.d : Val → D
  | .i n => .int n
  | .w s => .str s
abbrev Row := List Val
def rowD (r : Row) : D := .tup (r.map Val.d)
def strD (s : Str) : D := .str s
def intD (i : Int) : D := .int i
theorem eqD_int {a b : Int} : eqD (.int a) (.int b) = decide (a = b) := by simp only [eqD]; rfl
theorem eqD_str {a b : Str} : eqD (.str a) (.str b) = decide (a = b) := by rw [eqD, str_beq]
theorem eqD_val {a b : Val} : eqD a.d b.d = decide (a = b) := by
  cases a <;> cases b <;> simp only [Val.d, eqD_int, eqD_str, Val.i.injEq, Val.w.injEq] <;> simp [eqD]
theorem eqDs_map {α : Type} [DecidableEq α] {f : α → D} (h : ∀ a b, eqD (f a) (f b) = decide (a = b)) : ∀ {xs ys : List α}, eqDs (xs.map f) (ys.map f) = decide (xs = ys)
  | [], [] => by simp [eqDs]
  | [], _ :: _ => by simp [eqDs]
  | _ :: _, [] => by simp [eqDs]
  | x :: xs, y :: ys => by
    rw [List.map_cons, List.map_cons, eqDs, h, eqDs_map h]
    simp [Bool.decide_and]
theorem eqD_row {a b : Row} : eqD (rowD a) (rowD b) = decide (a = b) := by
  unfold rowD
  rw [eqD, eqDs_map fun _ _ => eqD_val]
theorem eqDs_nil : eqDs [] [] = true := by simp [eqDs]
theorem eqDs_cons {x y : D} {xs ys : List D} : eqDs (x :: xs) (y :: ys) = (eqD x y && eqDs xs ys) := by rw [eqDs]
theorem eqD_tup {xs ys : List D} : eqD (.tup xs) (.tup ys) = eqDs xs ys := by rw [eqD]
theorem eqD_lst {xs ys : List D} : eqD (.lst xs) (.lst ys) = eqDs xs ys := by rw [eqD]
theorem ok_val {n : Nat} (a : Val) : eqOk n a.d = true := by cases a <;> simp [Val.d, eqOk]
theorem oks_map {α : Type} {n : Nat} {f : α → D} (h : ∀ a, eqOk n (f a) = true) : ∀ (xs : List α), eqOks n (xs.map f) = true
  | [] => by simp [eqOks]
  | x :: xs => by rw [List.map_cons, eqOks, h, oks_map h]; rfl
theorem oks_mem {n : Nat} : ∀ {ds : List D}, (∀ d ∈ ds, eqOk n d = true) → eqOks n ds = true
  | [], _ => by simp [eqOks]
  | x :: xs, h => by rw [eqOks, h x (by simp), oks_mem fun d hd => h d (by simp [hd])]; rfl
theorem ok_tup {n : Nat} {ds : List D} : eqOk (n + 1) (.tup ds) = eqOks n ds := by rw [eqOk]
theorem ok_lst {n : Nat} {ds : List D} : eqOk (n + 1) (.lst ds) = eqOks n ds := by rw [eqOk]
theorem ok_row {n : Nat} (r : Row) : eqOk (n + 1) (rowD r) = true := by
  unfold rowD
  rw [ok_tup]
  exact oks_map (fun a => ok_val a) r
abbrev Place := Str × Row
def placeD (p : Place) : D := .tup [.str p.1, rowD p.2]
abbrev Fact := Str × Row × Nat × Nat
def chD (n d : Nat) : D := .tup [.int n, .int d]
def factD (f : Fact) : D := .tup [.str f.1, rowD f.2.1, chD f.2.2.1 f.2.2.2]
def Fact.pl (f : Fact) : Place := (f.1, f.2.1)
theorem eqD_place {a b : Place} : eqD (placeD a) (placeD b) = decide (a = b) := by
  unfold placeD
  rw [eqD, eqDs_cons, eqDs_cons, eqDs_nil, eqD_str, eqD_row, Bool.and_true, ← Bool.decide_and]
  simp [Prod.ext_iff]
theorem ok_place {n : Nat} (p : Place) : eqOk (n + 2) (placeD p) = true := by
  unfold placeD
  rw [ok_tup, eqOks, eqOks, ok_row]
  simp [eqOk, eqOks]
theorem ok_ch {n : Nat} (a b : Nat) : eqOk (n + 1) (chD a b) = true := by
  unfold chD
  rw [ok_tup]
  simp [eqOk, eqOks]
theorem ok_fact {n : Nat} (f : Fact) : eqOk (n + 2) (factD f) = true := by
  unfold factD
  rw [ok_tup, eqOks, eqOks, eqOks, ok_row, ok_ch]
  simp [eqOk, eqOks]
/-! ### the law's keys -/
def isStr : Val → Bool
  | .i _ => false
  | .w _ => true
def kvD (v : Val) : D := .tup [.int (if isStr v then 1 else 0), v.d]
def rkD (r : Row) : D := .lst (r.map kvD)
def pkD (p : Place) : D := .tup [.str p.1, rkD p.2]
theorem cmp_val {a b : Val} (h : isStr a = isStr b) : cmpC a.d b.d = true := by
  cases a <;> cases b <;> first | (cases h; done) | simp [Val.d, cmpC]
theorem cmp_kv (a b : Val) : cmpC (kvD a) (kvD b) = true := by
  unfold kvD
  rw [cmpC, cmpCs, cmpCs, cmpCs]
  cases ha : isStr a <;> cases hb : isStr b <;> simp [eqD_int, cmpC, cmp_val, ha, hb]
theorem cmpCs_map {α : Type} {f : α → D} (h : ∀ a b, cmpC (f a) (f b) = true) : ∀ {xs ys : List α}, cmpCs (xs.map f) (ys.map f) = true
  | [], _ => by simp [cmpCs]
  | _ :: _, [] => by simp [cmpCs]
  | x :: xs, y :: ys => by
    rw [List.map_cons, List.map_cons, cmpCs, h, cmpCs_map h]
    simp
theorem cmp_rk (a b : Row) : cmpC (rkD a) (rkD b) = true := by
  unfold rkD
  rw [cmpC]
  exact cmpCs_map cmp_kv
theorem cmp_pk (a b : Place) : cmpC (pkD a) (pkD b) = true := by
  unfold pkD
  rw [cmpC, cmpCs, cmpCs, cmpCs, cmp_rk]
  simp [cmpC]
theorem ok_kv {n : Nat} (v : Val) : eqOk (n + 1) (kvD v) = true := by
  unfold kvD
  rw [ok_tup, eqOks, eqOks, ok_val]
  simp [eqOk, eqOks]
theorem ok_rk {n : Nat} (r : Row) : eqOk (n + 2) (rkD r) = true := by
  unfold rkD
  rw [ok_lst]
  exact oks_map (fun a => ok_kv a) r
theorem ok_pk {n : Nat} (p : Place) : eqOk (n + 3) (pkD p) = true := by
  unfold pkD
  rw [ok_tup, eqOks, eqOks, ok_rk]
  simp [eqOk, eqOks]
theorem pk_keys {ps : List Place} (h : ps.length ≤ sizeLine) : keyOk (ps.map pkD) = true := keyOk_of ⟨oks_map (fun p => ok_pk p) ps, fun d hd e he => by
  obtain ⟨p, _, rfl⟩ := List.mem_map.1 hd
  obtain ⟨q, _, rfl⟩ := List.mem_map.1 he
  exact cmp_pk p q, .inl ⟨fun d hd => by
    obtain ⟨p, _, rfl⟩ := List.mem_map.1 hd
    rfl, fun d hd e he => by
    obtain ⟨p, _, rfl⟩ := List.mem_map.1 hd
    obtain ⟨q, _, rfl⟩ := List.mem_map.1 he
    rfl⟩, by simpa using h⟩
/-- sorting what stands for α -/
theorem sort_enc {α : Type} (f : α → D) (k : α → D) (r : α → α → Bool) (xs : List α) (g : D → D) (hg : ∀ a ∈ xs, g (f a) = k a) (hr : ∀ a ∈ xs, ∀ b ∈ xs, r a b = !ltD (k b) (k a)) : sortK (xs.map f) ((xs.map f).map g) = (xs.mergeSort r).map f := by
  rw [sortK_map]
  refine (PySem.W.sort_maps (r := r) (s := fun a b => !ltD (g b) (g a)) f fun a ha b hb => ?_).symm
  rw [hr a ha b hb, hg a ha, hg b hb]
end DL


/-! PL6: what the draws give: values, chances, facts, schemas; sorting texts, removing doubles -/
namespace DL
open PySem L2
def VOk (cs : List Int) (ws : List Str) : Val → Prop
  | .i n => n.natAbs < 10 ^ 15 ∨ ∃ c ∈ cs, n.natAbs = c.natAbs
  | .w s => s ∈ ws
structure ChOk (n d : Nat) : Prop where
  pos : 0 < d
  low : Nat.gcd n d = 1
  le : n ≤ d
  lt : d < 10 ^ 60
theorem ChOk.zero : ChOk 0 1 := ⟨by decide, by decide, by decide, by decide⟩
theorem ChOk.one : ChOk 1 1 := ⟨by decide, by decide, by decide, by decide⟩
structure FactOk (cs : List Int) (ws : List Str) (f : Fact) : Prop where
  v : ∀ x ∈ f.2.1, VOk cs ws x
  c : ChOk f.2.2.1 f.2.2.2
abbrev Sch := List (Str × Nat)
def colD (p : Str × Nat) : D := .tup [.str p.1, .int p.2]
def schD (s : Sch) : D := .tup (s.map colD)
theorem ok_str {n : Nat} (s : Str) : eqOk n (.str s) = true := by simp [eqOk]
theorem ok_int {n : Nat} (i : Int) : eqOk n (.int i) = true := by simp [eqOk]
theorem str_keys {ws : List Str} (h : ws.length ≤ sizeLine) : srtOk (ws.map .str) = true := keyOk_of ⟨oks_map (fun s => ok_str s) ws, fun d hd e he => by
  obtain ⟨p, _, rfl⟩ := List.mem_map.1 hd
  obtain ⟨q, _, rfl⟩ := List.mem_map.1 he
  simp [cmpC], .inr (.inl fun d hd => by
    obtain ⟨p, _, rfl⟩ := List.mem_map.1 hd
    rfl), by simpa using h⟩
def strLe (a b : Str) : Bool := !ltD (.str b) (.str a)
theorem sort_str (ws : List Str) : sortD (ws.map .str) = (ws.mergeSort strLe).map .str :=
  (PySem.W.sort_maps (r := strLe) (s := fun a b => !ltD b a) D.str fun _ _ _ _ => rfl).symm
theorem sort_mem {α : Type} {r : α → α → Bool} {x : α} {xs : List α} : x ∈ xs.mergeSort r ↔ x ∈ xs := (List.mergeSort_perm xs r).mem_iff
/-- the items whose key was not met before -/
def firsts {α β : Type} [DecidableEq β] (k : α → β) : List β → List α → List α
  | _, [] => []
  | ks, x :: xs => if k x ∈ ks then firsts k ks xs else x :: firsts k (ks ++ [k x]) xs
theorem firsts_mem {α β : Type} [DecidableEq β] {k : α → β} {x : α} : ∀ {xs : List α} {ks : List β}, x ∈ firsts k ks xs → x ∈ xs
  | [], _, h => by simp [firsts] at h
  | y :: ys, ks, h => by
    rw [firsts] at h
    split at h
    · exact List.mem_cons_of_mem _ (firsts_mem h)
    · rcases List.mem_cons.1 h with rfl | h
      · simp
      · exact List.mem_cons_of_mem _ (firsts_mem h)
theorem firsts_len {α β : Type} [DecidableEq β] {k : α → β} : ∀ {xs : List α} {ks : List β}, (firsts k ks xs).length ≤ xs.length
  | [], _ => by simp [firsts]
  | y :: ys, ks => by
    rw [firsts]
    split
    · have := @firsts_len α β _ k ys ks
      simp; omega
    · have := @firsts_len α β _ k ys (ks ++ [k y])
      simp; omega
theorem firsts_new {α β : Type} [DecidableEq β] {k : α → β} : ∀ {xs : List α} {ks : List β}, ((firsts k ks xs).map k).Nodup ∧ ∀ x ∈ firsts k ks xs, k x ∉ ks
  | [], _ => by simp [firsts]
  | y :: ys, ks => by
    rw [firsts]
    split
    · exact firsts_new
    · rename_i h
      obtain ⟨h1, h2⟩ := @firsts_new α β _ k ys (ks ++ [k y])
      refine ⟨?_, fun x hx => ?_⟩
      · rw [List.map_cons, List.nodup_cons]
        refine ⟨fun q => ?_, h1⟩
        obtain ⟨z, hz, e⟩ := List.mem_map.1 q
        exact h2 z hz (by simp [e])
      · rcases List.mem_cons.1 hx with rfl | hx
        · exact h
        · exact fun q => h2 x hx (by simp [q])
theorem any_place {ps : List Place} {p : Place} : ((ps.map placeD).any fun z => eqD z (placeD p)) = decide (p ∈ ps) := by
  induction ps with
  | nil => simp
  | cons w ps ih =>
    rw [List.map_cons, List.any_cons, ih, eqD_place, ← Bool.decide_or]
    simp [eq_comm]
theorem any_fn {α : Type} [DecidableEq α] {f : α → D} (h : ∀ a b, eqD (f a) (f b) = decide (a = b)) {ps : List α} {p : α} : ((ps.map f).any fun z => eqD z (f p)) = decide (p ∈ ps) := by
  induction ps with
  | nil => simp
  | cons w ps ih =>
    rw [List.map_cons, List.any_cons, ih, h, ← Bool.decide_or]
    simp [eq_comm]
/-! equality of what stands for rows, places, facts -/
theorem o_eqRow {a b : Row} {Q : D → Prop} : wp (eqO (rowD a) (rowD b)) Q = Q (.bl (decide (a = b))) := by
  rw [o_eq, eqD_row, ok_row, ok_row]
  simp
theorem o_eqPlace {a b : Place} {Q : D → Prop} : wp (eqO (placeD a) (placeD b)) Q = Q (.bl (decide (a = b))) := by
  rw [o_eq, eqD_place, ok_place, ok_place]
  simp
theorem o_fact_0 {f : Fact} {Q : D → Prop} : wp (idxD (factD f) (.int 0)) Q = Q (.str f.1) := wp_some
theorem o_fact_1 {f : Fact} {Q : D → Prop} : wp (idxD (factD f) (.int 1)) Q = Q (rowD f.2.1) := wp_some
theorem o_fact_2 {f : Fact} {Q : D → Prop} : wp (idxD (factD f) (.int 2)) Q = Q (chD f.2.2.1 f.2.2.2) := wp_some
theorem o_pl_0 {f : Place} {Q : D → Prop} : wp (idxD (placeD f) (.int 0)) Q = Q (.str f.1) := wp_some
theorem o_pl_1 {f : Place} {Q : D → Prop} : wp (idxD (placeD f) (.int 1)) Q = Q (rowD f.2) := wp_some
theorem o_col_0 {f : Str × Nat} {Q : D → Prop} : wp (idxD (colD f) (.int 0)) Q = Q (.str f.1) := wp_some
theorem o_col_1 {f : Str × Nat} {Q : D → Prop} : wp (idxD (colD f) (.int 1)) Q = Q (.int f.2) := wp_some
theorem o_ch_0 {n d : Nat} {Q : D → Prop} : wp (idxD (chD n d) (.int 0)) Q = Q (.int n) := wp_some
theorem o_ch_1 {n d : Nat} {Q : D → Prop} : wp (idxD (chD n d) (.int 1)) Q = Q (.int d) := wp_some
theorem o_seqRow {r : Row} {Q : List D → Prop} : wp (seqD (rowD r)) Q = Q (r.map Val.d) := wp_some
theorem o_lenRow {r : Row} {S : Sh} {Q : D → Prop} : wp (lenS (rowD r) S) Q = Q (.int r.length) := by
  unfold rowD
  rw [ls_tup, List.length_map]
/-! slices -/
theorem cut_to (xs : List D) (k : Nat) : cutD xs none (some (k : Int)) = xs.take k := by
  unfold cutD
  rw [HT.sIx_none, HT.sIx_nat, List.drop_zero, Nat.sub_zero]
  by_cases h : k ≤ xs.length
  · rw [Nat.min_eq_left h]
  · rw [Nat.min_eq_right (by omega), List.take_of_length_le (Nat.le_refl _), List.take_of_length_le (by omega)]
theorem cut_from (xs : List D) (k : Nat) : cutD xs (some (k : Int)) none = xs.drop k := by
  unfold cutD
  rw [HT.sIx_none, HT.sIx_nat]
  by_cases h : k ≤ xs.length
  · rw [Nat.min_eq_left h, List.take_of_length_le (by simp)]
  · rw [Nat.min_eq_right (by omega), List.drop_of_length_le (Nat.le_refl _), List.drop_of_length_le (show xs.length ≤ k by omega)]
    simp
theorem cut_lit2 (xs : List D) : cutD xs none (some 2) = xs.take 2 := cut_to xs 2
theorem o_fact2 {y : Fact} {Q : D → Prop} : wp (sliceD (factD y) none (some 2)) Q = Q (placeD y.pl) := by
  unfold factD
  rw [o_slT, cut_lit2]
  rfl
theorem cut_map {α : Type} (f : α → D) (xs : List α) (a b : Option Int) : ∃ ys : List α, cutD (xs.map f) a b = ys.map f ∧ ys.Sublist xs := by
  unfold cutD
  rw [← List.map_drop, ← List.map_take]
  exact ⟨_, rfl, (List.take_sublist _ _).trans (List.drop_sublist _ _)⟩
/-! comprehensions over what stands for α -/
section
variable {α : Type} {ρ : Env'} {S : Sh} {QA : List D × Sh → Prop} {tg : Tg} {tt : DT} {el : DE}
theorem comp_encF' {f g : α → D} {p : α → Bool} : ∀ (xs : List α) (acc : List D), (∀ a ∈ xs, ∃ u, bindT tg (f a) = some u ∧ tt (putD ρ u) S = some (p a, S) ∧ (p a = true → el (putD ρ u) S = some (g a, S))) → acc.length + xs.length ≤ sizeLine →
    loopC tg tt el ρ (xs.map f) acc S = some (acc ++ (xs.filter p).map g, S)
  | [], acc, h, l => by simp [loopC]
  | d :: r, acc, h, l => by
    obtain ⟨u, e1, e2, e3⟩ := h d (by simp)
    simp only [List.length_cons] at l
    rw [List.map_cons, loopC, e1, Option.bind_some, e2, Option.bind_some]
    by_cases hp : p d = true
    · simp only [hp, if_true, e3 hp, Option.bind_some]
      rw [if_pos (by omega), comp_encF' r _ (fun d hd => h d (by simp [hd])) (by simp; omega)]
      simp [hp]
    · simp only [Bool.not_eq_true] at hp
      simp only [hp, if_false, Bool.false_eq_true]
      rw [comp_encF' r _ (fun d hd => h d (by simp [hd])) (by omega)]
      simp [hp]
theorem comp_encF {f g : α → D} {p : α → Bool} {xs : List α} (h : ∀ a ∈ xs, ∃ u, bindT tg (f a) = some u ∧ tt (putD ρ u) S = some (p a, S) ∧ (p a = true → el (putD ρ u) S = some (g a, S))) (hl : xs.length ≤ sizeLine) (hq : QA ((xs.filter p).map g, S)) : wp (loopC tg tt el ρ (xs.map f) [] S) QA :=
  wp_ok (comp_encF' xs [] h (by simpa using hl)) (by simpa using hq)
theorem comp_enc {f g : α → D} {xs : List α} (h : ∀ a ∈ xs, ∃ u, bindT tg (f a) = some u ∧ tt (putD ρ u) S = some (true, S) ∧ el (putD ρ u) S = some (g a, S)) (hl : xs.length ≤ sizeLine) (hq : QA (xs.map g, S)) : wp (loopC tg tt el ρ (xs.map f) [] S) QA :=
  comp_encF (p := fun _ => true) (fun a ha => let ⟨u, h1, h2, h3⟩ := h a ha; ⟨u, h1, h2, fun _ => h3⟩) hl (by rw [List.filter_eq_self.2 fun _ _ => rfl]; exact hq)
/-- one thing drawn for each turn -/
theorem comp_draw {f : α → D} {P : α → Prop} {I : Sh → Prop} {j : Nat} (xs : List D) (hI : I S) (hel : ∀ d ∈ xs, ∀ S, I S → wp (el (putD ρ [(j, d)]) S) fun q => ∃ a, q.1 = f a ∧ P a ∧ I q.2) (hl : xs.length ≤ sizeLine)
    (hq : ∀ (as : List α) S', as.length = xs.length → (∀ a ∈ as, P a) → I S' → QA (as.map f, S')) : wp (loopC (.n j) dtYes el ρ xs [] S) QA := by
  refine comp_inv (fun ys acc S => ∃ as : List α, acc = as.map f ∧ (∀ a ∈ as, P a) ∧ I S ∧ (∀ y ∈ ys, y ∈ xs) ∧ ys.length + as.length = xs.length) _ _ _ ⟨[], rfl, by simp, hI, fun _ h => h, by simp⟩ ?_ ?_
  · rintro d r _ S' ⟨as, rfl, h1, h2, h3, h4⟩
    refine ⟨_, rfl, ?_⟩
    rw [w_tYes, if_pos rfl]
    simp only [List.length_cons] at h4
    refine wp_mono (hel d (h3 d (by simp)) S' h2) fun q h => ?_
    obtain ⟨a, e, h5, h6⟩ := h
    refine ⟨by simp; omega, as ++ [a], by simp [e], fun b hb => ?_, h6, fun y hy => h3 y (by simp [hy]), by simp; omega⟩
    rcases List.mem_append.1 hb with hb | hb
    · exact h1 b hb
    · rw [List.mem_singleton.1 hb]; exact h5
  · rintro _ S' ⟨as, rfl, h1, h2, h3, h4⟩
    exact hq as S' (by simpa using h4) h1 h2
end
/-! pure data -/
theorem pure_map {α : Type} {f : α → D} (h : ∀ a, pureD (f a) = true) : ∀ (xs : List α), pureDs (xs.map f) = true
  | [] => by simp [pureDs]
  | x :: xs => by rw [List.map_cons, pureDs, h, pure_map h]; rfl
theorem pure_tup {ds : List D} : pureD (.tup ds) = pureDs ds := by rw [pureD]
theorem pure_cons {d : D} {ds : List D} : pureDs (d :: ds) = (pureD d && pureDs ds) := by rw [pureDs]
theorem pure_nil : pureDs [] = true := by rw [pureDs]
theorem pure_int {i : Int} : pureD (.int i) = true := by rw [pureD]
theorem pure_str {i : Str} : pureD (.str i) = true := by rw [pureD]
theorem pure_val (v : Val) : pureD v.d = true := by cases v <;> simp [Val.d, pureD]
theorem pure_row (r : Row) : pureD (rowD r) = true := by rw [rowD, pure_tup]; exact pure_map pure_val r
theorem pure_place (p : Place) : pureD (placeD p) = true := by rw [placeD, pure_tup, pure_cons, pure_cons, pure_nil, pure_str, pure_row]; rfl
theorem pure_fact (f : Fact) : pureD (factD f) = true := by
  rw [factD, pure_tup, pure_cons, pure_cons, pure_cons, pure_nil, pure_str, pure_row, chD, pure_tup, pure_cons, pure_cons, pure_nil, pure_int, pure_int]; rfl
end DL


/-! PL7: more equations; numbers of worlds -/
namespace DL
open PySem L2
section
variable {ρ : Env'} {S : Sh} {QD : D × Sh → Prop} {Q1 : D → Prop} {a b c : DE}
theorem w_chain {g g' : D → D → Option D} : wp (dChain g g' a b c ρ S) QD = wp (a ρ S) fun p => wp (b ρ p.2) fun q => wp (g p.1 q.1) fun z => isB (fun k => if k then wp (c ρ q.2) fun r => wp (g' q.1 r.1) fun z => QD (z, r.2) else QD (.bl false, q.2)) z := by
  simp only [dChain, wp_bind]
  congr 1; funext p
  congr 1; funext q
  congr 1; funext z
  cases z with
  | bl k => cases k <;> simp [isB, wp_bind, wp_map, wp_some]
  | _ => simp [isB, wp_none]
theorem o_band1 {n : Nat} : wp (bandD (.int n) (.int 1)) Q1 = Q1 (.int ((n % 2 : Nat) : Int)) := by
  have e : Builtin.bitAnd (n : Int) 1 = ((n % 2 : Nat) : Int) := by
    unfold Builtin.bitAnd
    rw [show decide ((0 : Int) ≤ n) = true by simp, show decide ((0 : Int) ≤ 1) = true by decide]
    show (((n : Int).toNat &&& (1 : Int).toNat : Nat) : Int) = _
    rw [Int.toNat_natCast, show (1 : Int).toNat = 1 from rfl, Nat.and_one_is_mod]
  simp only [bandD, wp_some, e]
end
/-! worlds -/
def numW (ps : List Place) : List Fact → Nat
  | [] => 0
  | f :: r => (if f.pl ∈ ps then 2 ^ r.length else 0) + numW ps r
theorem numW_lt {ps : List Place} : ∀ (fs : List Fact), numW ps fs < 2 ^ fs.length
  | [] => by simp [numW]
  | f :: r => by
    have := @numW_lt ps r
    rw [numW, List.length_cons, Nat.pow_succ]
    split <;> omega
theorem numW_full {ps : List Place} : ∀ {fs : List Fact}, (∀ f ∈ fs, f.pl ∈ ps) → numW ps fs + 1 = 2 ^ fs.length
  | [], _ => by simp [numW]
  | f :: r, h => by
    have := @numW_full ps r fun x hx => h x (by simp [hx])
    rw [numW, List.length_cons, Nat.pow_succ, if_pos (h f (by simp))]
    omega
/-- the world of a number -/
def worldN : List Fact → Nat → List Place
  | [], _ => []
  | f :: r, n => if 2 ^ r.length ≤ n then f.pl :: worldN r (n - 2 ^ r.length) else worldN r n
theorem worldN_sub : ∀ (fs : List Fact) (n : Nat), (worldN fs n).Sublist (fs.map Fact.pl)
  | [], _ => by simp [worldN]
  | f :: r, n => by
    rw [worldN, List.map_cons]
    split
    · exact (worldN_sub r _).cons_cons _
    · exact (worldN_sub r _).cons _
theorem worldN_len (fs : List Fact) (n : Nat) : (worldN fs n).length ≤ fs.length := by simpa using (worldN_sub fs n).length_le
theorem numW_congr {ps qs : List Place} : ∀ {fs : List Fact}, (∀ f ∈ fs, (f.pl ∈ ps ↔ f.pl ∈ qs)) → numW ps fs = numW qs fs
  | [], _ => rfl
  | f :: r, h => by
    rw [numW, numW, numW_congr fun x hx => h x (by simp [hx])]
    simp only [h f (by simp)]
/-- the number of a part of the places, in their order, leads back to it -/
theorem worldN_numW : ∀ {fs : List Fact} {ps : List Place}, (fs.map Fact.pl).Nodup → ps.Sublist (fs.map Fact.pl) → worldN fs (numW ps fs) = ps
  | [], ps, _, h => by
    rw [List.map_nil, List.sublist_nil] at h
    subst h
    rfl
  | f :: r, ps, hn, h => by
    rw [List.map_cons, List.nodup_cons] at hn
    rw [List.map_cons] at h
    rw [worldN, numW]
    have hlt := @numW_lt ps r
    cases h with
    | cons _ h' =>
      have : f.pl ∉ ps := fun q => hn.1 (h'.subset q)
      rw [if_neg this, Nat.zero_add, if_neg (by omega)]
      exact worldN_numW hn.2 h'
    | @cons_cons ps' _ _ h' =>
      rw [if_pos (show f.pl ∈ f.pl :: ps' by simp), if_pos (Nat.le_add_right _ _), show 2 ^ r.length + numW (f.pl :: ps') r - 2 ^ r.length = numW (f.pl :: ps') r by omega]
      rw [numW_congr (ps := f.pl :: ps') (qs := ps') fun x hx => ?_, worldN_numW hn.2 h']
      rw [List.mem_cons]
      refine ⟨fun q => q.resolve_left fun e => hn.1 (e ▸ List.mem_map_of_mem hx), .inr⟩
theorem worldN_mod : ∀ (fs : List Fact) (f : Fact) (n : Nat), n < 2 ^ (fs.length + 1) → worldN (fs ++ [f]) n = worldN fs (n / 2) ++ if n % 2 = 1 then [f.pl] else []
  | [], f, n, h => by
    simp only [List.length_nil, Nat.zero_add, Nat.pow_one] at h
    have : n = 0 ∨ n = 1 := by omega
    rcases this with rfl | rfl <;> simp [worldN]
  | g :: fs, f, n, h => by
    simp only [List.length_cons, Nat.pow_succ] at h
    rw [List.cons_append, worldN, worldN, List.length_append, List.length_singleton, Nat.pow_succ]
    have h2 := @worldN_mod fs f
    rw [Nat.pow_succ] at h2
    by_cases hc : 2 ^ fs.length * 2 ≤ n
    · rw [if_pos hc, if_pos (by omega), h2 _ (by omega), show (n - 2 ^ fs.length * 2) / 2 = n / 2 - 2 ^ fs.length by omega, show (n - 2 ^ fs.length * 2) % 2 = n % 2 by omega, List.cons_append]
    · rw [if_neg hc, if_neg (by omega), h2 _ (by omega)]
/-- a comprehension that leaves out by draws -/
theorem comp_sub {α : Type} {ρ : Env'} {S : Sh} {QA : List D × Sh → Prop} {f g : α → D} {I : Sh → Prop} {j : Nat} {tt : DT} {el : DE} (xs : List α) (hI : I S)
    (hel : ∀ a ∈ xs, ∀ S, I S → wp (tt (putD ρ [(j, f a)]) S) fun p => I p.2 ∧ (p.1 = true → ∀ Q : D × Sh → Prop, Q (g a, p.2) → wp (el (putD ρ [(j, f a)]) p.2) Q)) (hl : xs.length ≤ sizeLine)
    (hq : ∀ (as : List α) S', as.Sublist xs → I S' → QA (as.map g, S')) : wp (loopC (.n j) tt el ρ (xs.map f) [] S) QA := by
  refine comp_inv (fun ys acc S => ∃ as bs cs : List α, acc = as.map g ∧ ys = bs.map f ∧ as.Sublist cs ∧ cs ++ bs = xs ∧ I S) _ _ _ ⟨[], xs, [], rfl, rfl, .slnil, rfl, hI⟩ ?_ ?_
  · rintro d r _ S' ⟨as, bs, cs, rfl, h1, h2, h3, h4⟩
    cases bs with
    | nil => cases h1
    | cons b bs =>
      rw [List.map_cons, List.cons.injEq] at h1
      obtain ⟨rfl, rfl⟩ := h1
      refine ⟨_, rfl, wp_mono (hel b (by rw [← h3]; simp) S' h4) fun p hp => ?_⟩
      obtain ⟨h5, h6⟩ := hp
      have hlen : as.length < sizeLine := by
        have := h2.length_le
        rw [← h3, List.length_append, List.length_cons] at hl
        omega
      split
      · rename_i hp
        refine h6 hp _ ⟨by simpa using hlen, as ++ [b], bs, cs ++ [b], by simp, rfl, h2.append (.refl _), by simp [h3], h5⟩
      · exact ⟨as, bs, cs ++ [b], rfl, rfl, h2.trans (List.sublist_append_left _ _), by simp [h3], h5⟩
  · rintro _ S' ⟨as, bs, cs, rfl, h1, h2, h3, h4⟩
    obtain rfl : bs = [] := by simpa using h1.symm
    rw [List.append_nil] at h3
    exact hq as S' (h3 ▸ h2) h4
end DL


/-! PL8: sums over all worlds -/
namespace DL
open PySem L2
def wSum (g : Nat → Nat) : Nat → Nat
  | 0 => 0
  | n + 1 => wSum g n + g n
theorem wSum_add (g : Nat → Nat) (m : Nat) : ∀ n, wSum g (m + n) = wSum g m + wSum (fun i => g (m + i)) n
  | 0 => rfl
  | n + 1 => by rw [← Nat.add_assoc, wSum, wSum_add g m n, wSum, Nat.add_assoc]
theorem wSum_congr {g h : Nat → Nat} : ∀ {n : Nat}, (∀ i, i < n → g i = h i) → wSum g n = wSum h n
  | 0, _ => rfl
  | n + 1, e => by rw [wSum, wSum, wSum_congr fun i hi => e i (by omega), e n (by omega)]
theorem wSum_mul (k : Nat) (g : Nat → Nat) : ∀ n, wSum (fun i => k * g i) n = k * wSum g n
  | 0 => rfl
  | n + 1 => by rw [wSum, wSum_mul k g n, wSum, Nat.mul_add]
theorem wSum_zero : ∀ n, wSum (fun _ => 0) n = 0
  | 0 => rfl
  | n + 1 => by rw [wSum, wSum_zero n]
def numC : List Fact → Nat → Nat
  | [], _ => 1
  | f :: r, n => if 2 ^ r.length ≤ n then f.2.2.1 * numC r (n - 2 ^ r.length) else (f.2.2.2 - f.2.2.1) * numC r n
def dd : List Fact → Nat
  | [] => 1
  | f :: r => f.2.2.2 * dd r
theorem numC_lo {f : Fact} {r : List Fact} {i : Nat} (h : i < 2 ^ r.length) : numC (f :: r) i = (f.2.2.2 - f.2.2.1) * numC r i := by rw [numC, if_neg (by omega)]
theorem numC_hi {f : Fact} {r : List Fact} {i : Nat} : numC (f :: r) (2 ^ r.length + i) = f.2.2.1 * numC r i := by rw [numC, if_pos (by omega), Nat.add_sub_cancel_left]
theorem worldN_lo {f : Fact} {r : List Fact} {i : Nat} (h : i < 2 ^ r.length) : worldN (f :: r) i = worldN r i := by rw [worldN, if_neg (by omega)]
theorem worldN_hi {f : Fact} {r : List Fact} {i : Nat} : worldN (f :: r) (2 ^ r.length + i) = f.pl :: worldN r i := by rw [worldN, if_pos (by omega), Nat.add_sub_cancel_left]
theorem halves (g : Nat → Nat) (k : Nat) : wSum g (2 ^ (k + 1)) = wSum g (2 ^ k) + wSum (fun i => g (2 ^ k + i)) (2 ^ k) := by
  rw [Nat.pow_succ, Nat.mul_two, wSum_add]
theorem sum_all : ∀ {gs : List Fact}, (∀ f ∈ gs, f.2.2.1 ≤ f.2.2.2) → wSum (numC gs) (2 ^ gs.length) = dd gs
  | [], _ => rfl
  | f :: r, h => by
    rw [List.length_cons, halves, dd, ← sum_all fun x hx => h x (by simp [hx])]
    rw [wSum_congr (h := fun i => (f.2.2.2 - f.2.2.1) * numC r i) fun i hi => by rw [numC, if_neg (by omega)]]
    rw [wSum_congr (g := fun i => numC (f :: r) (2 ^ r.length + i)) (h := fun i => f.2.2.1 * numC r i) fun i hi => by rw [numC, if_pos (by omega), Nat.add_sub_cancel_left]]
    rw [wSum_mul, wSum_mul, ← Nat.add_mul, Nat.sub_add_cancel (h f (by simp))]
theorem worldN_mem {gs : List Fact} {n : Nat} {p : Place} (h : p ∈ worldN gs n) : p ∈ gs.map Fact.pl := (worldN_sub gs n).subset h
/-- the chances of the worlds with a place -/
theorem sum_one : ∀ {gs : List Fact} {f : Fact}, (∀ f ∈ gs, f.2.2.1 ≤ f.2.2.2) → (gs.map Fact.pl).Nodup → f ∈ gs → wSum (fun n => if f.pl ∈ worldN gs n then numC gs n else 0) (2 ^ gs.length) * f.2.2.2 = f.2.2.1 * dd gs
  | g :: r, f, h, hn, hf => by
    rw [List.map_cons, List.nodup_cons] at hn
    have hr : ∀ x ∈ r, x.2.2.1 ≤ x.2.2.2 := fun x hx => h x (by simp [hx])
    rw [List.length_cons, halves]
    rcases List.mem_cons.1 hf with rfl | hf
    · rw [wSum_congr (h := fun _ => 0) fun i hi => by
        rw [worldN_lo hi, if_neg fun q => hn.1 (worldN_mem q)]]
      rw [wSum_congr (g := fun i => if f.pl ∈ worldN (f :: r) (2 ^ r.length + i) then numC (f :: r) (2 ^ r.length + i) else 0) (h := fun i => f.2.2.1 * numC r i) fun i hi => by
        rw [worldN_hi, numC_hi, if_pos (by simp)]]
      rw [wSum_zero, wSum_mul, sum_all hr, dd, Nat.zero_add, Nat.mul_assoc, Nat.mul_comm (dd r)]
    · have hne : f.pl ≠ g.pl := fun e => hn.1 (e ▸ List.mem_map_of_mem hf)
      rw [wSum_congr (h := fun i => (g.2.2.2 - g.2.2.1) * (if f.pl ∈ worldN r i then numC r i else 0)) fun i hi => by
        rw [worldN_lo hi, numC_lo hi]
        split <;> simp]
      rw [wSum_congr (g := fun i => if f.pl ∈ worldN (g :: r) (2 ^ r.length + i) then numC (g :: r) (2 ^ r.length + i) else 0) (h := fun i => g.2.2.1 * (if f.pl ∈ worldN r i then numC r i else 0)) fun i hi => by
        rw [worldN_hi, numC_hi]
        simp only [List.mem_cons, hne, false_or]
        split <;> simp]
      rw [wSum_mul, wSum_mul, ← Nat.add_mul, Nat.sub_add_cancel (h g (by simp)), Nat.mul_assoc, sum_one hr hn.2 hf, dd, ← Nat.mul_assoc, ← Nat.mul_assoc, Nat.mul_comm g.2.2.2]
theorem numW_worldN : ∀ {gs : List Fact} {n : Nat}, (gs.map Fact.pl).Nodup → n < 2 ^ gs.length → numW (worldN gs n) gs = n
  | [], n, _, h => by
    have : n = 0 := by simpa using h
    subst this
    rfl
  | f :: r, n, hn, h => by
    rw [List.map_cons, List.nodup_cons] at hn
    rw [List.length_cons, Nat.pow_succ] at h
    rw [worldN, numW]
    by_cases hc : 2 ^ r.length ≤ n
    · rw [if_pos hc, if_pos (by simp), numW_congr (qs := worldN r (n - 2 ^ r.length)) fun x hx => ?_, numW_worldN hn.2 (by omega)]
      · omega
      · rw [List.mem_cons]
        exact ⟨fun q => q.resolve_left fun e => hn.1 (e ▸ List.mem_map_of_mem hx), .inr⟩
    · rw [if_neg hc, if_neg fun q => hn.1 (worldN_mem q), numW_worldN hn.2 (by omega), Nat.zero_add]
end DL


/-! PL9: texts of numbers, values, places, facts -/
namespace DL
open PySem L2
theorem ofString_len (s : String) : (Str.ofString s).length = s.toList.length := by
  rw [PySem.Str.ofString_eq_toList]
  simp [Str.length]
theorem toString_len {i : Int} {k : Nat} (hk : 0 < k) (h : i.natAbs < 10 ^ k) : (Str.ofString (toString i)).length ≤ k + 1 := by
  rw [ofString_len]
  have hd : ∀ n : Nat, n < 10 ^ k → (Nat.repr n).toList.length ≤ k := fun n hn => by
    rw [Nat.toList_repr]
    exact (Nat.length_toDigits_le_iff (by decide) hk).2 hn
  cases i with
  | ofNat n =>
    have := hd n (by simpa using h)
    show (Nat.repr n).toList.length ≤ k + 1
    omega
  | negSucc n =>
    have := hd (n + 1) (by simpa using h)
    show ("-" ++ Nat.repr (n + 1)).toList.length ≤ k + 1
    rw [String.toList_append, List.length_append, show ("-" : String).toList.length = 1 from rfl]
    omega
theorem joinL_len (sep : List Nat) : ∀ (ps : List (List Nat)), (TL.joinL sep ps).length ≤ (ps.map (·.length)).sum + ps.length * sep.length
  | [] => by simp [TL.joinL]
  | [p] => by simp [TL.joinL]
  | p :: q :: r => by
    have := joinL_len sep (q :: r)
    rw [TL.joinL, List.length_append, List.length_append]
    simp only [List.map_cons, List.sum_cons, List.length_cons] at *
    rw [Nat.add_mul (r.length + 1)]
    omega
theorem join_len_le (sep : Str) (ys : List Str) : (Txt.join sep ys).length ≤ (ys.map (·.length)).sum + ys.length * sep.length := by
  rw [← len_cps, show Txt.join sep ys = Str.join sep ys from StrLaws.glued_eq_join _ ys, show (Str.join sep ys).cps.toList = _ from TL.tl_join sep ys]
  refine Nat.le_trans (joinL_len _ _) (Nat.le_of_eq ?_)
  rw [List.map_map, List.length_map]
  try rfl
theorem sum_le {ys : List Str} {k : Nat} : (∀ y ∈ ys, y.length ≤ k) → (ys.map (·.length)).sum ≤ ys.length * k := by
  induction ys with
  | nil => simp
  | cons y ys ih =>
    intro h
    have h1 := ih fun z hz => h z (by simp [hz])
    have h2 := h y (by simp)
    rw [List.map_cons, List.sum_cons, List.length_cons, Nat.add_mul, Nat.one_mul]
    omega
/-- a value that is short as a text -/
def tV (v : Val) : Prop := match v with
  | .i n => n.natAbs < 10 ^ 58
  | .w s => s.length ≤ 400
def iT (i : Int) : Str := Str.ofString (toString i)
def vT : Val → Str
  | .i n => iT n
  | .w s => ("\"" : Str) ++ s ++ ("\"" : Str)
theorem iT_len {i : Int} (h : i.natAbs < 10 ^ 58) : (iT i).length ≤ 59 := toString_len (by decide) h
theorem vT_len {v : Val} (h : tV v) : (vT v).length ≤ 402 := by
  cases v with
  | i n => exact Nat.le_trans (iT_len h) (by decide)
  | w s =>
    have : s.length ≤ 400 := h
    rw [vT, app_len, app_len, show ("\"" : Str).length = 1 from rfl]
    omega
def rT (r : Row) : Str := Txt.join (", " : Str) (r.map vT)
theorem rT_len {r : Row} (hl : r.length ≤ 8) (h : ∀ v ∈ r, tV v) : (rT r).length ≤ 3300 := by
  have h1 := join_len_le (", " : Str) (r.map vT)
  have h2 := @sum_le (r.map vT) 402 fun y hy => by
    obtain ⟨v, hv, rfl⟩ := List.mem_map.1 hy
    exact vT_len (h v hv)
  rw [List.length_map, show (", " : Str).length = 2 from rfl] at h1
  rw [List.length_map] at h2
  unfold rT
  omega
def pT (n : Str) (r : Row) : Str := n ++ ("(" : Str) ++ rT r ++ (")" : Str)
theorem pT_len {n : Str} {r : Row} (hn : n.length ≤ 400) (hl : r.length ≤ 8) (h : ∀ v ∈ r, tV v) : (pT n r).length ≤ 3702 := by
  have := rT_len hl h
  rw [pT, app_len, app_len, app_len, show ("(" : Str).length = 1 from rfl, show (")" : Str).length = 1 from rfl]
  omega
def fT (f : Fact) : Str := pT f.1 f.2.1 ++ (" " : Str) ++ iT f.2.2.1 ++ ("/" : Str) ++ iT f.2.2.2
structure TF (f : Fact) : Prop where
  n : f.1.length ≤ 400
  l : f.2.1.length ≤ 8
  v : ∀ v ∈ f.2.1, tV v
  a : f.2.2.1 < 10 ^ 58
  b : f.2.2.2 < 10 ^ 58
theorem fT_len {f : Fact} (h : TF f) : (fT f).length ≤ 4000 := by
  have h1 := pT_len h.n h.l h.v
  have h2 := @iT_len (f.2.2.1 : Int) (by rw [Int.natAbs_natCast]; exact h.a)
  have h3 := @iT_len (f.2.2.2 : Int) (by rw [Int.natAbs_natCast]; exact h.b)
  rw [fT, app_len, app_len, app_len, app_len, show (" " : Str).length = 1 from rfl, show ("/" : Str).length = 1 from rfl]
  omega
def cT (t : Str × Nat) : Str := ("table " : Str) ++ t.1 ++ (" " : Str) ++ iT t.2
structure TC (t : Str × Nat) : Prop where
  n : t.1.length ≤ 400
  c : t.2 ≤ 8
theorem cT_len {t : Str × Nat} (h : TC t) : (cT t).length ≤ 500 := by
  have h1 := h.n
  have h2 := @iT_len (t.2 : Int) (by have := h.c; rw [Int.natAbs_natCast]; omega)
  rw [cT, app_len, app_len, app_len, show ("table " : Str).length = 6 from rfl, show (" " : Str).length = 1 from rfl]
  omega
def bT (s : Sch) (fs : List Fact) : Str := Txt.join ("\n" : Str) (s.map cT ++ fs.map fT)
theorem col_keys {s : Sch} (h : s.length ≤ sizeLine) : srtOk (s.map colD) = true := keyOk_of ⟨oks_map (fun t => by
    unfold colD
    rw [ok_tup, eqOks, eqOks, eqOks, ok_str, ok_int]
    rfl) s, fun d hd e he => by
  obtain ⟨p, _, rfl⟩ := List.mem_map.1 hd
  obtain ⟨q, _, rfl⟩ := List.mem_map.1 he
  unfold colD
  rw [cmpC, cmpCs, cmpCs, cmpCs]
  simp [cmpC], .inl ⟨fun d hd => by
    obtain ⟨p, _, rfl⟩ := List.mem_map.1 hd
    rfl, fun d hd e he => by
    obtain ⟨p, _, rfl⟩ := List.mem_map.1 hd
    obtain ⟨q, _, rfl⟩ := List.mem_map.1 he
    rfl⟩, by simpa using h⟩
def colLe (a b : Str × Nat) : Bool := !ltD (colD b) (colD a)
theorem sort_col (s : Sch) : sortD (s.map colD) = (s.mergeSort colLe).map colD :=
  (PySem.W.sort_maps (r := colLe) (s := fun a b => !ltD b a) colD fun _ _ _ _ => rfl).symm
end DL


/-! PL10: terms, atoms, joins, questions and their texts -/
namespace DL
open PySem L2
inductive Tm where
  | v (s : Str) | c (x : Val)
  deriving DecidableEq
def termD : Tm → D
  | .v s => .tup [.str ("var" : Str), .str s]
  | .c x => .tup [.str ("value" : Str), x.d]
abbrev Atm := Str × List Tm
def atomD (a : Atm) : D := .tup [.str a.1, .tup (a.2.map termD)]
abbrev Jn := List Tm × List Atm
def joinD (j : Jn) : D := .tup [.tup (j.1.map termD), .tup (j.2.map atomD)]
abbrev Qn := Nat × List Jn
def qnD (q : Qn) : D := .tup [.int q.1, .tup (q.2.map joinD)]
def TT (t : Tm) : Prop := match t with
  | .v s => s.length ≤ 400
  | .c x => tV x
def tT : Tm → Str
  | .v s => s
  | .c x => vT x
theorem tT_len {t : Tm} (h : TT t) : (tT t).length ≤ 402 := by
  cases t with
  | v s => exact Nat.le_trans (show s.length ≤ 400 from h) (by decide)
  | c x => exact vT_len h
structure TA (a : Atm) : Prop where
  n : a.1.length ≤ 400
  l : a.2.length ≤ 8
  t : ∀ t ∈ a.2, TT t
theorem sum_map_le {α : Type} {f : α → Str} {xs : List α} {k : Nat} (h : ∀ x ∈ xs, (f x).length ≤ k) : ((xs.map f).map fun y => y.length).sum ≤ xs.length * k := by
  have := @sum_le (xs.map f) k fun y hy => by
    obtain ⟨x, hx, rfl⟩ := List.mem_map.1 hy
    exact h x hx
  rwa [List.length_map] at this
theorem join_map_le {α : Type} {f : α → Str} {xs : List α} {k : Nat} (sep : Str) (h : ∀ x ∈ xs, (f x).length ≤ k) : (Txt.join sep (xs.map f)).length ≤ xs.length * k + xs.length * sep.length := by
  have h1 := join_len_le sep (xs.map f)
  have h2 := sum_map_le h
  rw [List.length_map] at h1
  omega
def tsT (ts : List Tm) : Str := Txt.join (", " : Str) (ts.map tT)
theorem tsT_len {ts : List Tm} (hl : ts.length ≤ 10) (h : ∀ t ∈ ts, TT t) : (tsT ts).length ≤ 4040 := by
  have := join_map_le (", " : Str) (f := tT) (xs := ts) (k := 402) fun t ht => tT_len (h t ht)
  rw [show (", " : Str).length = 2 from rfl] at this
  unfold tsT
  omega
def aT (a : Atm) : Str := a.1 ++ ("(" : Str) ++ tsT a.2 ++ (")" : Str)
theorem aT_len {a : Atm} (h : TA a) : (aT a).length ≤ 4500 := by
  have h1 := tsT_len (show a.2.length ≤ 10 from Nat.le_trans h.l (by decide)) h.t
  have h2 := h.n
  rw [aT, app_len, app_len, app_len, show ("(" : Str).length = 1 from rfl, show (")" : Str).length = 1 from rfl]
  omega
structure TJ (j : Jn) : Prop where
  h : j.1.length ≤ 10
  t : ∀ t ∈ j.1, TT t
  l : j.2.length ≤ 8
  a : ∀ a ∈ j.2, TA a
def asT (as : List Atm) : Str := Txt.join (", " : Str) (as.map aT)
theorem asT_len {as : List Atm} (hl : as.length ≤ 8) (h : ∀ a ∈ as, TA a) : (asT as).length ≤ 36016 := by
  have := join_map_le (", " : Str) (f := aT) (xs := as) (k := 4500) fun t ht => aT_len (h t ht)
  rw [show (", " : Str).length = 2 from rfl] at this
  unfold asT
  omega
def jT (j : Jn) : Str := if 0 < j.2.length then ("[" : Str) ++ tsT j.1 ++ ("]" : Str) ++ (" " : Str) ++ asT j.2 else ("[" : Str) ++ tsT j.1 ++ ("]" : Str)
theorem jT_len {j : Jn} (h : TJ j) : (jT j).length ≤ 41000 := by
  have h1 := tsT_len h.h h.t
  have h2 := asT_len h.l h.a
  unfold jT
  split <;> simp only [app_len, show ("[" : Str).length = 1 from rfl, show ("]" : Str).length = 1 from rfl, show (" " : Str).length = 1 from rfl] <;> omega
structure TQ (q : Qn) : Prop where
  n : q.1 ≤ 100
  l : q.2.length ≤ 8
  j : ∀ j ∈ q.2, TJ j
def qT (q : Qn) : Str := if q.2.length = 0 then ("none " : Str) ++ iT q.1 else Txt.join ("; " : Str) (q.2.map jT)
/-! pure -/
theorem pure_term (t : Tm) : pureD (termD t) = true := by
  cases t with
  | v s => rw [termD, pure_tup, pure_cons, pure_cons, pure_nil, pure_str, pure_str]; rfl
  | c x => rw [termD, pure_tup, pure_cons, pure_cons, pure_nil, pure_str, pure_val]; rfl
theorem pure_atom (a : Atm) : pureD (atomD a) = true := by
  rw [atomD, pure_tup, pure_cons, pure_cons, pure_nil, pure_str, pure_tup, pure_map pure_term]; rfl
theorem pure_join (j : Jn) : pureD (joinD j) = true := by
  rw [joinD, pure_tup, pure_cons, pure_cons, pure_nil, pure_tup, pure_tup, pure_map pure_term, pure_map pure_atom]; rfl
/-! looking into them -/
theorem o_atom_0 {a : Atm} {Q : D → Prop} : wp (idxD (atomD a) (.int 0)) Q = Q (.str a.1) := wp_some
theorem o_atom_1 {a : Atm} {Q : D → Prop} : wp (idxD (atomD a) (.int 1)) Q = Q (.tup (a.2.map termD)) := wp_some
theorem o_join_0 {j : Jn} {Q : D → Prop} : wp (idxD (joinD j) (.int 0)) Q = Q (.tup (j.1.map termD)) := wp_some
theorem o_join_1 {j : Jn} {Q : D → Prop} : wp (idxD (joinD j) (.int 1)) Q = Q (.tup (j.2.map atomD)) := wp_some
theorem o_qn_0 {q : Qn} {Q : D → Prop} : wp (idxD (qnD q) (.int 0)) Q = Q (.int q.1) := wp_some
theorem o_qn_1 {q : Qn} {Q : D → Prop} : wp (idxD (qnD q) (.int 1)) Q = Q (.tup (q.2.map joinD)) := wp_some
end DL


/-! PL11: sorted sets of texts and of ints, places in lists, two fors -/
namespace DL
open PySem L2
section
variable {α : Type} {ρ : Env'} {σ : Env2} {S : Sh} {QO : Out → Prop} {QD : D × Sh → Prop} {QA : List D × Sh → Prop} {Q1 : D → Prop} {a b : DE} {dn it it1 : DN} {dl : DA} {tt tt1 : DT} {el : DE} {tg tg1 : Tg} {vs vs1 : List Nat} {x y : D} {xs ys acc : List D} {i : Int} {QL : List D → Prop} {QK : List Key → Prop}
theorem w_sortSet : wp (nSortSet a ρ S) QA = wp (a ρ S) fun p => wp (setO p.1) fun L => QA (sortD (L.map keD), p.2) := by simp only [nSortSet, wp_bind, wp_map]
theorem w_lenSet : wp (dLenSet a ρ S) QD = wp (a ρ S) fun p => wp (setO p.1) fun L => QD (.int L.length, p.2) := by simp only [dLenSet, wp_bind, wp_map]
theorem w_index : wp (dIndex a dl ρ S) QD = wp (a ρ S) fun p => wp (seqD p.1) fun ds => wp (dl ρ p.2) fun q => wp (ixO ds q.1) fun z => QD (z, q.2) := by simp only [dIndex, wp_bind, wp_map]
theorem o_ixO : wp (ixO xs [x]) Q1 = ((eqOks 60 xs = true ∧ eqOk 60 x = true) ∧ wp (xs.findIdx? fun z => eqD z x) fun (j : Nat) => Q1 (.int j)) := by simp only [ixO, wp_iteN, wp_map]
theorem w_listRg : wp (nListRg a ρ S) QA = wp (a ρ S) fun p => isI (fun n => (-(2 ^ 62) ≤ n ∧ n ≤ 2 ^ 24) ∧ QA (rngO 0 n.toNat, p.2)) p.1 := by
  simp only [nListRg, wp_bind]
  congr 1
  funext p
  rcases p with ⟨x, S⟩
  cases x <;> simp only [wp_none, isI, wp_iteN, wp_some]
theorem w_comp2 : wp (nComp2 it tg vs tt it1 tg1 vs1 tt1 el ρ S) QA = wp (it ρ S) fun p => wp (loopC2 tg tt it1 tg1 vs1 tt1 el (wipeD ρ vs) p.1 [] p.2) QA := by simp only [nComp2, wp_bind]
theorem lc2_n : wp (loopC2 tg tt it1 tg1 vs1 tt1 el ρ [] acc S) QA = QA (acc, S) := wp_some
theorem lc2_c : wp (loopC2 tg tt it1 tg1 vs1 tt1 el ρ (x :: xs) acc S) QA = wp (bindT tg x) fun u => wp (tt (putD ρ u) S) fun p => if p.1 then wp (it1 (putD ρ u) p.2) fun q => wp (loopC tg1 tt1 el (wipeD (putD ρ u) vs1) q.1 acc q.2) fun z => wp (loopC2 tg tt it1 tg1 vs1 tt1 el ρ xs z.1 z.2) QA
    else wp (loopC2 tg tt it1 tg1 vs1 tt1 el ρ xs acc p.2) QA := by
  rw [loopC2, wp_bind]
  simp only [wp_bind, wp_ite]
/-- over what stands for α, the inner loop over what stands for β -/
theorem comp2_enc {β : Type} {f : α → D} {g : β → D} {bs : α → List β} : ∀ (xs : List α) (acc : List D), (∀ a ∈ xs, ∃ u ds, bindT tg (f a) = some u ∧ tt (putD ρ u) S = some (true, S) ∧ it1 (putD ρ u) S = some (ds, S) ∧ ∀ acc : List D, acc.length + (bs a).length ≤ sizeLine → loopC tg1 tt1 el (wipeD (putD ρ u) vs1) ds acc S = some (acc ++ (bs a).map g, S)) →
    acc.length + (xs.map fun a => (bs a).length).sum ≤ sizeLine → loopC2 tg tt it1 tg1 vs1 tt1 el ρ (xs.map f) acc S = some (acc ++ (xs.flatMap bs).map g, S)
  | [], acc, h, l => by simp [loopC2]
  | d :: r, acc, h, l => by
    obtain ⟨u, ds, e1, e2, e3, e4⟩ := h d (by simp)
    rw [List.map_cons, List.sum_cons] at l
    rw [List.map_cons, loopC2, e1, Option.bind_some, e2, Option.bind_some]
    simp only [if_true, e3, Option.bind_some]
    rw [e4 acc (by omega), Option.bind_some, comp2_enc r _ (fun a ha => h a (by simp [ha])) (by simp; omega)]
    simp
end
/-! ### sets of texts -/
def usort (ws : List Str) : List Str := (metG [] ws).mergeSort strLe
def isort (ns : List Int) : List Int := (metG [] ns).mergeSort fun a b => decide (a ≤ b)
theorem metG_map {α β : Type} [DecidableEq α] [DecidableEq β] {f : α → β} (hf : ∀ a b, f a = f b → a = b) : ∀ (xs acc : List α), metG (acc.map f) (xs.map f) = (metG acc xs).map f
  | [], acc => rfl
  | x :: xs, acc => by
    rw [List.map_cons, metG, metG, ← metG_map hf xs]
    congr 1
    have : f x ∈ acc.map f ↔ x ∈ acc := ⟨fun h => by
      obtain ⟨y, hy, e⟩ := List.mem_map.1 h
      rw [← hf _ _ e]; exact hy, fun h => List.mem_map_of_mem h⟩
    by_cases c : x ∈ acc
    · rw [if_pos c, if_pos (this.2 c)]
    · rw [if_neg c, if_neg fun z => c (this.1 z), List.map_append]; rfl
theorem ksOf_str : ∀ (ws : List Str), ksOf (ws.map .str) = some (ws.map .inr)
  | [] => rfl
  | w :: ws => by rw [List.map_cons, ksOf, ksOf_str ws]; rfl
theorem ksOf_int : ∀ (ws : List Int), ksOf (ws.map .int) = some (ws.map .inl)
  | [] => rfl
  | w :: ws => by rw [List.map_cons, ksOf, ksOf_int ws]; rfl
theorem alike_str (ws : List Str) : alikeK (ws.map .inr) = true := by
  unfold alikeK
  rw [Bool.or_eq_true, List.all_eq_true, List.all_eq_true]
  exact .inr fun k hk => by
    obtain ⟨w, _, rfl⟩ := List.mem_map.1 hk
    rfl
theorem alike_int (ws : List Int) : alikeK (ws.map .inl) = true := by
  unfold alikeK
  rw [Bool.or_eq_true, List.all_eq_true, List.all_eq_true]
  exact .inl fun k hk => by
    obtain ⟨w, _, rfl⟩ := List.mem_map.1 hk
    rfl
theorem metG_str (ws : List Str) : metG [] (ws.map (Sum.inr : Str → Key)) = (metG [] ws).map .inr := metG_map (f := (Sum.inr : Str → Key)) (fun a b h => Sum.inr.inj h) ws []
theorem metG_int (ws : List Int) : metG [] (ws.map (Sum.inl : Int → Key)) = (metG [] ws).map .inl := metG_map (f := (Sum.inl : Int → Key)) (fun a b h => Sum.inl.inj h) ws []
section
variable {Q : List Key → Prop} {ws : List Str} {ns : List Int}
theorem o_setLs : wp (setO (.lst (ws.map .str))) Q = (ws.length + 1 < 4096 ∧ Q ((metG [] ws).map .inr)) := by
  unfold setO
  rw [seqD, Option.bind_some, ksOf_str, Option.bind_some, metG_str, wp_iteN, wp_some, List.length_map, alike_str]
  simp
theorem o_setTs : wp (setO (.tup (ws.map .str))) Q = (ws.length + 1 < 4096 ∧ Q ((metG [] ws).map .inr)) := by
  unfold setO
  rw [seqD, Option.bind_some, ksOf_str, Option.bind_some, metG_str, wp_iteN, wp_some, List.length_map, alike_str]
  simp
theorem o_setLi : wp (setO (.lst (ns.map .int))) Q = (ns.length + 1 < 4096 ∧ Q ((metG [] ns).map .inl)) := by
  unfold setO
  rw [seqD, Option.bind_some, ksOf_int, Option.bind_some, metG_int, wp_iteN, wp_some, List.length_map, alike_int]
  simp
end
theorem sort_us (ws : List Str) : sortD (((metG [] ws).map Sum.inr).map keD) = (usort ws).map .str := by
  rw [List.map_map]
  exact sort_str _
theorem sort_is (ns : List Int) : sortD (((metG [] ns).map Sum.inl).map keD) = (isort ns).map .int := by
  rw [List.map_map]
  refine (PySem.W.sort_maps (r := fun a b => decide (a ≤ b)) (s := fun a b => !ltD b a) D.int fun a _ b _ => ?_).symm
  show decide (a ≤ b) = !ltD (.int b) (.int a)
  rw [ltD_int]
  by_cases h : a ≤ b
  · rw [decide_eq_true h, decide_eq_false (by omega)]; rfl
  · rw [decide_eq_false h, decide_eq_true (by omega)]; rfl
theorem us_mem {ws : List Str} {s : Str} : s ∈ usort ws ↔ s ∈ ws := by
  unfold usort
  rw [sort_mem, metG_mem]
  simp
theorem us_nodup (ws : List Str) : (usort ws).Nodup := ((List.mergeSort_perm _ _).nodup_iff).2 (metG_nodup _ _ List.nodup_nil)
theorem is_mem {ws : List Int} {s : Int} : s ∈ isort ws ↔ s ∈ ws := by
  unfold isort
  rw [sort_mem, metG_mem]
  simp
theorem is_nodup (ws : List Int) : (isort ws).Nodup := ((List.mergeSort_perm _ _).nodup_iff).2 (metG_nodup _ _ List.nodup_nil)
theorem metG_le {K : Type} [DecidableEq K] [Inhabited K] (ks : List K) : (metG [] ks).length ≤ ks.length := by simpa using metG_len ks []
theorem us_len (ws : List Str) : (usort ws).length ≤ ws.length := by
  unfold usort
  rw [List.length_mergeSort]
  exact metG_le ws
theorem is_len (ws : List Int) : (isort ws).length ≤ ws.length := by
  unfold isort
  rw [List.length_mergeSort]
  exact metG_le ws
/-! the order of texts -/
theorem strLe_trans (a b c : Str) (h1 : strLe a b = true) (h2 : strLe b c = true) : strLe a c = true := ltD_le (.str a) (.str b) (.str c) h1 h2
theorem strLe_tot (a b : Str) : (strLe a b || strLe b a) = true := ltD_tot (.str a) (.str b)
theorem strLe_anti {a b : Str} (h1 : strLe a b = true) (h2 : strLe b a = true) : a = b := by
  have e1 : (PyProof.Rows.listOrd PyProof.Rows.itemOrd).kle (tk (keD (.inr a))) (tk (keD (.inr b))) := by simpa [PyProof.Rows.KeyOrd.kle, strLe, ltD] using h1
  have e2 : (PyProof.Rows.listOrd PyProof.Rows.itemOrd).kle (tk (keD (.inr b))) (tk (keD (.inr a))) := by simpa [PyProof.Rows.KeyOrd.kle, strLe, ltD] using h2
  exact Sum.inr.inj (tk_inj (PyProof.Rows.KeyOrd.kle_antisymm e1 e2))
theorem us_sorted (ws : List Str) : (usort ws).Pairwise fun a b => strLe a b = true := List.pairwise_mergeSort strLe_trans strLe_tot _
theorem nodup_perm {α : Type} : ∀ {l l' : List α}, l.Nodup → l'.Nodup → (∀ x, x ∈ l ↔ x ∈ l') → l.Perm l'
  | [], l', _, _, h => by
    cases l' with
    | nil => exact .nil
    | cons x r => exact absurd ((h x).2 (by simp)) (by simp)
  | x :: l, l', h1, h2, h => by
    classical
    rw [List.nodup_cons] at h1
    have hx : x ∈ l' := (h x).1 (by simp)
    have p := List.perm_cons_erase hx
    have h3 : (x :: l'.erase x).Nodup := p.nodup_iff.1 h2
    rw [List.nodup_cons] at h3
    refine (List.Perm.cons x (nodup_perm h1.2 h3.2 fun y => ?_)).trans p.symm
    constructor
    · intro hy
      have : y ∈ x :: l'.erase x := p.mem_iff.1 ((h y).1 (by simp [hy]))
      rcases List.mem_cons.1 this with rfl | h4
      · exact absurd hy h1.1
      · exact h4
    · intro hy
      have : y ∈ x :: l := (h y).2 (p.mem_iff.2 (by simp [hy]))
      rcases List.mem_cons.1 this with rfl | h4
      · exact absurd hy h3.1
      · exact h4
/-- a sorted list of distinct texts is told by its members -/
theorem us_one {l l' : List Str} (h1 : l.Nodup) (h2 : l'.Nodup) (s1 : l.Pairwise fun a b => strLe a b = true) (s2 : l'.Pairwise fun a b => strLe a b = true) (h : ∀ x, x ∈ l ↔ x ∈ l') : l = l' :=
  sorted_one (r := strLe) (nodup_perm h1 h2 h) s1 s2 fun a _ b _ e1 e2 => strLe_anti e1 e2
theorem us_congr {ws ws' : List Str} (h : ∀ x, x ∈ ws ↔ x ∈ ws') : usort ws = usort ws' :=
  us_one (us_nodup _) (us_nodup _) (us_sorted _) (us_sorted _) fun x => by rw [us_mem, us_mem, h]
theorem us_idem (ws : List Str) : usort (usort ws) = usort ws := us_congr fun x => us_mem
theorem us_filter (ws : List Str) (p : Str → Bool) : (usort ws).filter p = usort (ws.filter p) :=
  us_one ((us_nodup _).sublist List.filter_sublist) (us_nodup _) ((us_sorted _).sublist List.filter_sublist) (us_sorted _) fun x => by rw [List.mem_filter, us_mem, us_mem, List.mem_filter]
theorem pure_strs (ws : List Str) : pureDs (ws.map .str) = true := pure_map (fun s => pure_str) ws
theorem oks_strs {n : Nat} (ws : List Str) : eqOks n (ws.map .str) = true := oks_map (fun s => ok_str s) ws
end DL


/-! PL12: sorted set comprehensions -/
namespace DL
open PySem L2
section
variable {ρ : Env'} {S : Sh} {it it1 : DN} {tg tg1 : Tg} {vs vs1 : List Nat} {tt tt1 : DT} {el : DE} {QA : List D × Sh → Prop}
theorem w_sortSC2 : wp (nSortSC2 it tg vs tt it1 tg1 vs1 tt1 el ρ S) QA = wp (nComp2 it tg vs tt it1 tg1 vs1 tt1 el ρ S) fun p => wp (setO (.lst p.1)) fun L => QA (sortD (L.map keD), p.2) := by simp only [nSortSC2, wp_bind, wp_map]
/-- over what stands for α, the inner loop over what stands for β; c a: how many turns at most -/
theorem comp2_encF {α β : Type} {f : α → D} {g : β → D} {bs : α → List β} {c : α → Nat} (hc : ∀ a, (bs a).length ≤ c a) : ∀ (xs : List α) (acc : List D), (∀ a ∈ xs, ∃ u ds, bindT tg (f a) = some u ∧ tt (putD ρ u) S = some (true, S) ∧ it1 (putD ρ u) S = some (ds, S) ∧ ∀ acc : List D, acc.length + c a ≤ sizeLine → loopC tg1 tt1 el (wipeD (putD ρ u) vs1) ds acc S = some (acc ++ (bs a).map g, S)) →
    acc.length + (xs.map c).sum ≤ sizeLine → loopC2 tg tt it1 tg1 vs1 tt1 el ρ (xs.map f) acc S = some (acc ++ (xs.flatMap bs).map g, S)
  | [], acc, h, l => by simp [loopC2]
  | d :: r, acc, h, l => by
    obtain ⟨u, ds, e1, e2, e3, e4⟩ := h d (by simp)
    rw [List.map_cons, List.sum_cons] at l
    have := hc d
    rw [List.map_cons, loopC2, e1, Option.bind_some, e2, Option.bind_some]
    simp only [if_true, e3, Option.bind_some]
    rw [e4 acc (by omega), Option.bind_some, comp2_encF hc r _ (fun a ha => h a (by simp [ha])) (by simp; omega)]
    simp
theorem o_isb {a b : Bool} {Q : D → Prop} : wp (isbO (.bl a) (.bl b)) Q = Q (.bl (a == b)) := wp_some
theorem o_isnb {a b : Bool} {Q : D → Prop} : wp (isnbO (.bl a) (.bl b)) Q = Q (.bl (!(a == b))) := wp_some
end
end DL


namespace DL
open PySem L2
section
variable {α β : Type} {Q : α → Prop} {ρ : Env'} {σ : Env2} {S : Sh} {QD : D × Sh → Prop} {QT : Bool × Sh → Prop} {QA : List D × Sh → Prop} {QO : Out → Prop} {Q1 : D → Prop} {QP : (List D × List D) × Sh → Prop} {QM : Bool × Env2 × Sh → Prop}
  {a b c : DE} {t : DT} {da : DA} {nd : DND} {s1 s2 : DS} {m1 m2 : DM} {keep keep2 : List Nat} {n : Nat} {x y z k v : D} {ks vs xs ys : List D} {u : Bool}
theorem w_dFzD : wp (dFzD nd ρ S) QD = wp (nd ρ S) fun p => QD (.dct p.1.1 p.1.2, p.2) := by simp only [dFzD, wp_map]
theorem w_ndNil : wp (ndNil ρ S) QP = QP (([], []), S) := wp_some
theorem w_ndCopy : wp (ndCopy a ρ S) QP = wp (a ρ S) fun p => wp (dctD p.1) fun q => leafB q.1 = true ∧ QP (q, p.2) := by simp only [ndCopy, wp_bind, wp_iteN, wp_some]
theorem dc_t {Q : List D × List D → Prop} : wp (dctD (.dct ks vs)) Q = Q (ks, vs) := wp_some
theorem dc_u {Q : List D × List D → Prop} : wp (dctD (.dcu ks vs)) Q = Q (ks, vs) := wp_some
theorem w_look {Q : Option D → Prop} : wp (dlook x k) Q = wp (dctD x) fun p => keyFit p.1 k = true ∧ Q (dget p.1 p.2 k) := by simp only [dlook, wp_bind, wp_iteN, wp_some]
theorem o_din : wp (dinO k x) Q1 = wp (dlook x k) fun o => Q1 (.bl o.isSome) := by simp only [dinO, wp_map]
theorem o_dnin : wp (dninO k x) Q1 = wp (dlook x k) fun o => Q1 (.bl (!o.isSome)) := by simp only [dninO, wp_map]
theorem o_ditem : wp (ditemO x k) Q1 = wp (dlook x k) fun o => wp o Q1 := by simp only [ditemO, wp_bind]
theorem w_dget2 : wp (dGet2 a b c ρ S) QD = wp (a ρ S) fun p => wp (b ρ p.2) fun q => wp (c ρ q.2) fun r => wp (dlook p.1 q.1) fun o => QD (o.getD r.1, r.2) := by simp only [dGet2, wp_bind, wp_map]
theorem w_nKeys : wp (nKeys a ρ S) QA = wp (a ρ S) fun p => wp (dctD p.1) fun q => QA (q.1, p.2) := by simp only [nKeys, wp_bind, wp_map]
def kDct (Q : List D → List D → Prop) : D → Prop
  | .dct ks vs => Q ks vs
  | _ => False
theorem kDct_t {Q : List D → List D → Prop} : kDct Q (.dct ks vs) = Q ks vs := rfl
theorem w_iKeysD : wp (iKeysD a ρ S) QA = wp (a ρ S) fun p => kDct (fun ks _ => QA (ks, p.2)) p.1 := by
  simp only [iKeysD, wp_bind]
  congr 1
  funext p
  rcases p with ⟨x, S⟩
  cases x <;> simp [wp, kDct]
theorem w_iItemsD : wp (iItemsD a ρ S) QA = wp (a ρ S) fun p => kDct (fun ks vs => QA (zipD ks vs, p.2)) p.1 := by
  simp only [iItemsD, wp_bind]
  congr 1
  funext p
  rcases p with ⟨x, S⟩
  cases x <;> simp [wp, kDct]
def kZip (Q : List D → Prop) : List D → Prop
  | [.tup xs, .tup ys] => Q (zipD xs ys)
  | _ => False
theorem kZip_t {Q : List D → Prop} : kZip Q [.tup xs, .tup ys] = Q (zipD xs ys) := rfl
theorem w_iZip : wp (iZip da ρ S) QA = wp (da ρ S) fun p => kZip (fun z => QA (z, p.2)) p.1 := by
  simp only [iZip, wp_bind]
  congr 1
  funext p
  rcases p with ⟨x, S⟩
  simp only
  split
  · simp [wp, kZip]
  · rename_i h
    have : kZip (fun z => QA (z, S)) x = False := by
      unfold kZip
      split
      · exact (h _ _ rfl).elim
      · rfl
    rw [this]
    simp [wp]
theorem w_ndComp {it : DN} {tg : Tg} {sl : List Nat} {tt : DT} {ek ev : DE} : wp (ndComp it tg sl tt ek ev ρ S) QP = wp (it ρ S) fun p => wp (loopDC tg tt ek ev (wipeD ρ sl) p.1 [] [] p.2) QP := by simp only [ndComp, wp_bind]
theorem ld_n {tg : Tg} {tt : DT} {ek ev : DE} : wp (loopDC tg tt ek ev ρ [] ks vs S) QP = QP ((ks, vs), S) := by simp only [loopDC, wp_some]
theorem ld_c {tg : Tg} {tt : DT} {ek ev : DE} {d : D} {r : List D} : wp (loopDC tg tt ek ev ρ (d :: r) ks vs S) QP = wp (bindT tg d) fun u => wp (tt (putD ρ u) S) fun p => if p.1 then wp (ek (putD ρ u) p.2) fun q => wp (ev (putD ρ u) q.2) fun v =>
      (keyFit ks q.1 = true ∧ ks.length < sizeLine) ∧ wp (loopDC tg tt ek ev ρ r (dput ks vs q.1 v.1).1 (dput ks vs q.1 v.1).2 v.2) QP else wp (loopDC tg tt ek ev ρ r ks vs p.2) QP := by simp only [loopDC, wp_bind, wp_ite, wp_none, if_false_right]
/-! ### statements -/
theorem w_setD : wp (sSetD keep n nd σ S) QO = wp (nd (fzE keep 0 σ) S) fun p => QO (.nx ((frz keep 0 σ).set n (.owx (.d p.1.1 p.1.2))) p.2) := by simp only [sSetD, wp_map]
def kPutD (n : Nat) (σ : Env2) (k v : D) (S : Sh) (Q : Out → Prop) : Prop := match σ[n]? with
  | some (.owx (.d ks vs)) => (keyFit ks k = true ∧ ks.length < sizeLine) ∧ Q (.nx (σ.set n (.owx (.d (dput ks vs k v).1 (dput ks vs k v).2))) S)
  | _ => False
theorem kPutD_o : kPutD n σ k v S QO = match σ[n]? with
  | some (.owx (.d ks vs)) => (keyFit ks k = true ∧ ks.length < sizeLine) ∧ QO (.nx (σ.set n (.owx (.d (dput ks vs k v).1 (dput ks vs k v).2))) S)
  | _ => False := rfl
theorem w_putD : wp (sPutD keep keep2 n a b σ S) QO = wp (a (fzE keep 0 σ) S) fun p => (chk keep p.2 && (pureD p.1 || keep.isEmpty)) = true ∧ wp (b (fzE keep2 0 σ) p.2) fun q => (chk keep2 q.2 && (pureD q.1 || keep2.isEmpty)) = true ∧ kPutD n σ q.1 p.1 q.2 QO := by
  simp only [sPutD, wp_bind, wp_iteN]
  congr 1
  funext p
  congr 2
  funext q
  congr 1
  unfold putDO kPutD
  cases σ[n]? with
  | none => simp [wp_none]
  | some s =>
    cases s with
    | owx x => cases x <;> simp [wp_none, wp_iteN, wp_some]
    | _ => simp [wp_none]
theorem w_lk : wp (sLk n s1 σ S) QO = wp (s1 (lkS n σ) S) QO := rfl
theorem lkS_n : lkS n [] = [] := by cases n <;> rfl
theorem lkS_z {s : Sl} {r : Env2} : lkS 0 (s :: r) = lk s :: r := rfl
theorem lkS_s {s : Sl} {r : Env2} : lkS (n + 1) (s :: r) = s :: lkS n r := rfl
theorem lk_d : lk (.owx (.d ks vs)) = .val (.dct ks vs) := rfl
theorem lk_val : lk (.val x) = .val x := rfl
theorem lk_no : lk .no = .no := rfl
theorem lk_own : lk (.own xs) = .own xs := rfl
theorem fz1_d : fz1 true (.owx (.d ks vs)) = some (.dcu ks vs) := rfl
theorem fz1_xF {o : OX} : fz1 false (.owx o) = none := rfl
theorem frz1_d : frz1 true (.owx (.d ks vs)) = .val (.dcu ks vs) := rfl
theorem w_ifM : wp (sIfM m1 s1 s2 σ S) QO = wp (m1 σ S) fun p => if p.1 then wp (s1 p.2.1 p.2.2) QO else wp (s2 p.2.1 p.2.2) QO := by simp only [sIfM, wp_bind, wp_ite]
theorem w_mT : wp (mT keep t σ S) QM = wp (t (fzE keep 0 σ) S) fun p => chk keep p.2 = true ∧ QM (p.1, σ, p.2) := by simp only [mT, wp_bind, wp_iteN, wp_some]
theorem w_mAnd : wp (mAnd m1 m2 σ S) QM = wp (m1 σ S) fun p => if p.1 then wp (m2 p.2.1 p.2.2) QM else QM (false, p.2) := by simp only [mAnd, wp_bind, wp_ite, wp_some]
/-- what setdefault gives -/
def kSd (n : Nat) (σ : Env2) (k v : D) (Q : D → Env2 → Prop) : Prop := match σ[n]? with
  | some (.owx (.d ks vs)) => (famD k = some true ∧ leafB ks = true ∧ ks.length < sizeLine) ∧ match dget ks vs k with
    | some w => Q w σ
    | none => Q v (σ.set n (.owx (.d (dput ks vs k v).1 (dput ks vs k v).2)))
  | _ => False
theorem kSd_o {Q : D → Env2 → Prop} : kSd n σ k v Q = match σ[n]? with
  | some (.owx (.d ks vs)) => (famD k = some true ∧ leafB ks = true ∧ ks.length < sizeLine) ∧ match dget ks vs k with
    | some w => Q w σ
    | none => Q v (σ.set n (.owx (.d (dput ks vs k v).1 (dput ks vs k v).2)))
  | _ => False := rfl
theorem w_neSd : wp (mNeSd n a b c σ S) QM = wp (a (fzE [] 0 σ) S) fun p => wp (b (fzE [] 0 σ) p.2) fun q => kSd n σ p.1 q.1 fun w σ' => wp (c (fzE [] 0 σ') q.2) fun r => wp (neO w r.1) fun z => isB (fun u => QM (u, σ', r.2)) z := by
  simp only [mNeSd, wp_bind]
  congr 1
  funext p
  congr 1
  funext q
  have e : ∀ (w : D) (σ' : Env2), wp ((c (fzE [] 0 σ') q.2).bind fun r => match neO w r.1 with
      | some (.bl b) => some (b, σ', r.2)
      | _ => none) QM = wp (c (fzE [] 0 σ') q.2) fun r => wp (neO w r.1) fun z => isB (fun u => QM (u, σ', r.2)) z := by
    intro w σ'
    rw [wp_bind]
    congr 1
    funext r
    cases neO w r.1 with
    | none => simp [wp_none]
    | some z => cases z <;> simp [wp, isB]
  unfold sdO kSd
  cases σ[n]? with
  | none => simp [wp_none]
  | some s =>
    cases s with
    | owx x =>
      cases x with
      | d ks vs =>
        simp only [wp_iteN]
        congr 1
        cases dget ks vs p.1 with
        | none =>
          simp only [wp_some]
          rw [← wp_bind]
          exact e _ _
        | some w =>
          simp only [wp_some]
          rw [← wp_bind]
          exact e _ _
      | _ => simp [wp_none]
    | _ => simp [wp_none]
/-! ### loops -/
end
end DL


/-! PL14: dicts that stand for lists of pairs; mappings of variables -/
namespace DL
open PySem L2
section
variable {κ β : Type} [DecidableEq κ]
def lookA : List (κ × β) → κ → Option β
  | [], _ => none
  | p :: r, k => if p.1 = k then some p.2 else lookA r k
def putA : List (κ × β) → κ → β → List (κ × β)
  | [], k, v => [(k, v)]
  | p :: r, k, v => if p.1 = k then (p.1, v) :: r else p :: putA r k v
theorem putA_none : ∀ {m : List (κ × β)} {k : κ} {v : β}, lookA m k = none → putA m k v = m ++ [(k, v)]
  | [], _, _, _ => rfl
  | p :: r, k, v, h => by
    rw [lookA] at h
    by_cases c : p.1 = k
    · rw [if_pos c] at h; cases h
    · rw [if_neg c] at h
      rw [putA, if_neg c, putA_none h]; rfl
theorem lookA_put : ∀ {m : List (κ × β)} {k j : κ} {v : β}, lookA (putA m k v) j = if k = j then some v else lookA m j
  | [], k, j, v => by simp [putA, lookA]
  | p :: r, k, j, v => by
    rw [putA]
    by_cases c : p.1 = k
    · rw [if_pos c, lookA, lookA]
      by_cases d : p.1 = j
      · rw [if_pos d, if_pos (c.symm.trans d)]
      · rw [if_neg d, if_neg d, if_neg (fun e => d (c.trans e))]
    · rw [if_neg c, lookA, lookA, lookA_put]
      by_cases d : p.1 = j
      · rw [if_pos d, if_pos d, if_neg (fun e => c (d.trans e.symm))]
      · rw [if_neg d, if_neg d]
theorem putA_len : ∀ {m : List (κ × β)} {k : κ} {v : β}, (putA m k v).length ≤ m.length + 1
  | [], _, _ => by simp [putA]
  | p :: r, k, v => by
    rw [putA]
    have := @putA_len r k v
    split <;> simp <;> omega
theorem lookA_mem : ∀ {m : List (κ × β)} {k : κ} {v : β}, lookA m k = some v → (k, v) ∈ m
  | [], _, _, h => by cases h
  | p :: r, k, v, h => by
    rw [lookA] at h
    by_cases c : p.1 = k
    · rw [if_pos c] at h; cases h
      rw [← c]; exact List.mem_cons_self
    · rw [if_neg c] at h
      exact List.mem_cons_of_mem _ (lookA_mem h)
theorem lookA_none : ∀ {m : List (κ × β)} {k : κ}, lookA m k = none ↔ k ∉ m.map (·.1)
  | [], k => by simp [lookA]
  | p :: r, k => by
    rw [lookA, List.map_cons, List.mem_cons, not_or]
    by_cases c : p.1 = k
    · rw [if_pos c]; simp [c]
    · rw [if_neg c, lookA_none]
      exact ⟨fun h => ⟨fun e => c e.symm, h⟩, fun h => h.2⟩
theorem putA_keys : ∀ {m : List (κ × β)} {k : κ} {v : β}, (putA m k v).map (·.1) = if k ∈ m.map (·.1) then m.map (·.1) else m.map (·.1) ++ [k]
  | [], _, _ => by simp [putA]
  | p :: r, k, v => by
    rw [putA]
    by_cases c : p.1 = k
    · rw [if_pos c, if_pos (by simp [c])]; rfl
    · rw [if_neg c, List.map_cons, putA_keys, List.map_cons]
      by_cases d : k ∈ r.map (·.1)
      · rw [if_pos d, if_pos (List.mem_cons_of_mem _ d)]
      · rw [if_neg d, if_neg (by simp only [List.mem_cons, not_or]; exact ⟨fun e => c e.symm, d⟩)]; rfl
variable {f : κ → D} {g : β → D}
abbrev dkeys (f : κ → D) (m : List (κ × β)) : List D := m.map fun p => f p.1
abbrev dvals (g : β → D) (m : List (κ × β)) : List D := m.map fun p => g p.2
def encD (f : κ → D) (g : β → D) (m : List (κ × β)) : D := .dct (m.map fun p => f p.1) (m.map fun p => g p.2)
theorem dget_enc (hf : ∀ a b, eqD (f a) (f b) = decide (a = b)) : ∀ (m : List (κ × β)) (k : κ), dget (m.map fun p => f p.1) (m.map fun p => g p.2) (f k) = (lookA m k).map g
  | [], k => rfl
  | p :: r, k => by
    rw [List.map_cons, List.map_cons, dget, hf, lookA]
    by_cases c : p.1 = k
    · simp [c]
    · simp only [c, decide_false, if_false, Bool.false_eq_true]
      exact dget_enc hf r k
theorem dput_enc (hf : ∀ a b, eqD (f a) (f b) = decide (a = b)) : ∀ (m : List (κ × β)) (k : κ) (v : β), dput (m.map fun p => f p.1) (m.map fun p => g p.2) (f k) (g v) = ((putA m k v).map (fun p => f p.1), (putA m k v).map fun p => g p.2)
  | [], k, v => rfl
  | p :: r, k, v => by
    rw [List.map_cons, List.map_cons, dput, hf, putA]
    by_cases c : p.1 = k
    · simp [c]
    · simp only [c, decide_false, if_false, Bool.false_eq_true]
      rw [dput_enc hf r k v]
      rfl
theorem fit_enc {b : Bool} (h : ∀ a, famD (f a) = some b) (m : List (κ × β)) (k : κ) : keyFit (m.map fun p => f p.1) (f k) = true := by
  unfold keyFit
  rw [h]
  simp only [List.all_map, List.all_eq_true]
  intro p _
  simp [h]
theorem fit_nil {b : Bool} {d : D} (h : famD d = some b) : keyFit [] d = true := by
  unfold keyFit
  rw [h]; rfl
end
theorem leaf_str {β : Type} (m : List (Str × β)) : leafB (m.map fun p => D.str p.1) = true := by
  unfold leafB
  simp only [List.all_map, List.all_eq_true]
  intro p _
  rfl
theorem fam_str (s : Str) : famD (.str s) = some true := rfl
theorem fam_int (i : Int) : famD (.int i) = some true := rfl
theorem kOks_map {α : Type} {n : Nat} {f : α → D} (h : ∀ a, kOk n (f a) = true) : ∀ xs : List α, kOks n (xs.map f) = true
  | [] => by simp [kOks]
  | x :: xs => by rw [List.map_cons, kOks, h, kOks_map h]; rfl
theorem kOk_val {n : Nat} (v : Val) : kOk n v.d = true := by cases v <;> simp [Val.d, kOk]
theorem kOk_row {n : Nat} (r : Row) : kOk (n + 1) (rowD r) = true := by
  unfold rowD
  rw [kOk]
  exact kOks_map (fun v => kOk_val v) r
theorem fam_row (r : Row) : famD (rowD r) = some false := by
  show (if kOks 7 (r.map Val.d) = true then some false else none) = some false
  rw [kOks_map (fun v => kOk_val v)]; rfl
theorem fam_place (p : Place) : famD (placeD p) = some false := by
  show (if kOks 7 [.str p.1, rowD p.2] = true then some false else none) = some false
  rw [kOks, kOks, kOks, kOk_row]
  simp [kOk]
/-- a loop over what stands for typed things, by invariant on what is left -/
theorem loop_e {α : Type} {tg : Tg} {body : DS} {QO : Out → Prop} (f : α → D) (I : List α → Env2 → Sh → Prop) :
    ∀ (xs : List α) (σ : Env2) (S : Sh), I xs σ S →
    (∀ x r σ S, I (x :: r) σ S → ∃ u, bindT tg (f x) = some u ∧ wp (body (putS σ u) S) fun o => match o with
      | .nx σ' S' => I r σ' S'
      | .ct σ' S' => I r σ' S'
      | .bk σ' S' => QO (.nx σ' S')
      | o => QO o) → (∀ σ S, I [] σ S → QO (.nx σ S)) → wp (loopF tg body (xs.map f) σ S) QO
  | [], σ, S, h, hb, he => wp_ok rfl (he σ S h)
  | x :: r, σ, S, h, hb, he => by
    obtain ⟨u, e, hw⟩ := hb x r σ S h
    rw [List.map_cons, loopF, e, Option.bind_some, wp_bind]
    refine wp_mono hw fun o q => ?_
    cases o with
    | nx σ' S' => exact loop_e f I r σ' S' q hb he
    | ct σ' S' => exact loop_e f I r σ' S' q hb he
    | bk σ' S' => exact wp_ok rfl q
    | rt d S' => exact wp_ok rfl q
    | ro d S' => exact wp_ok rfl q
    | ex c ρ' S' => exact wp_ok rfl q
/-! mappings -/
abbrev Mp := List (Str × Val)
def mpD (m : Mp) : D := .dct (m.map fun p => .str p.1) (m.map fun p => p.2.d)
def mpO : Option Mp → D
  | none => .non
  | some m => mpD m
/-- the mapping, extended so that the terms become the row -/
def ext : Mp → List Tm → Row → Option Mp
  | m, .c y :: ts, x :: xs => if y = x then ext m ts xs else none
  | m, .v s :: ts, x :: xs => match lookA m s with
    | some y => if y = x then ext m ts xs else none
    | none => ext (m ++ [(s, x)]) ts xs
  | m, _, _ => some m
def bnd (m : Mp) : Tm → Tm
  | .v s => match lookA m s with
    | some y => .c y
    | none => .v s
  | .c x => .c x
theorem ext_len : ∀ {ts : List Tm} {m m' : Mp} {xs : Row}, ext m ts xs = some m' → m'.length ≤ m.length + ts.length
  | [], m, m', xs, h => by
    have : m = m' := by cases xs <;> (simp [ext] at h; exact h)
    subst this; simp
  | t :: ts, m, m', [], h => by
    have : m = m' := by cases t <;> (simp [ext] at h; exact h)
    subst this; simp
  | .c y :: ts, m, m', x :: xs, h => by
    rw [ext] at h
    split at h
    · have := ext_len h
      simp; omega
    · cases h
  | .v s :: ts, m, m', x :: xs, h => by
    rw [ext] at h
    split at h
    · split at h
      · have := ext_len h
        simp; omega
      · cases h
    · have := ext_len h
      simp at this ⊢; omega
end DL


/-! PL15: wp-equations for groups and displays of one pair -/
namespace DL
open PySem L2
section
variable {ρ : Env'} {σ : Env2} {S : Sh} {QO : Out → Prop} {QP : (List D × List D) × Sh → Prop} {a b : DE} {nd : DND} {i n : Nat} {k d : D} {ks : List D} {vss : List (List D)}
theorem w_ndOne : wp (ndOne a b ρ S) QP = wp (a ρ S) fun p => wp (b ρ p.2) fun q => keyFit [] p.1 = true ∧ QP (([p.1], [q.1]), q.2) := by simp only [ndOne, wp_bind, wp_iteN, wp_some]
theorem w_setG : wp (sSetG n nd σ S) QO = wp (nd (fzE [] 0 σ) S) fun p => p.1.1.isEmpty = true ∧ QO (.nx (σ.set n (.owx (.g [] []))) p.2) := by simp only [sSetG, wp_bind, wp_iteN, wp_some]
def kSdApp (i n : Nat) (σ : Env2) (k : D) (S : Sh) (Q : Out → Prop) : Prop := match σ[i]?, σ[n]? with
  | some (.owx (.g ks vss)), some (.val d) => (keyFit ks k = true ∧ ks.length < sizeLine ∧ (vss.all fun ds => decide (ds.length < sizeLine)) = true) ∧ Q (.nx (σ.set i (.owx (.g (gput ks vss k d).1 (gput ks vss k d).2))) S)
  | _, _ => False
theorem kSdApp_o : kSdApp i n σ k S QO = match σ[i]?, σ[n]? with
  | some (.owx (.g ks vss)), some (.val d) => (keyFit ks k = true ∧ ks.length < sizeLine ∧ (vss.all fun ds => decide (ds.length < sizeLine)) = true) ∧ QO (.nx (σ.set i (.owx (.g (gput ks vss k d).1 (gput ks vss k d).2))) S)
  | _, _ => False := rfl
theorem w_sdApp : wp (sSdApp i n a σ S) QO = wp (a (fzE [] 0 σ) S) fun p => kSdApp i n σ p.1 p.2 QO := by
  simp only [sSdApp, wp_bind]
  congr 1
  funext p
  unfold kSdApp
  cases σ[i]? with
  | none => simp [wp_none]
  | some s =>
    cases s with
    | owx x =>
      cases x with
      | g ks vss =>
        cases σ[n]? with
        | none => simp [wp_none]
        | some t => cases t <;> simp [wp_none, wp_iteN, wp_some]
      | _ => simp [wp_none]
    | _ => simp [wp_none]
theorem lk_g : lk (.owx (.g ks vss)) = .val (.dcu ks (vss.map .lst)) := rfl
theorem fz1_g : fz1 true (.owx (.g ks vss)) = some (.dcu ks (vss.map .lst)) := rfl
theorem frz1_g : frz1 true (.owx (.g ks vss)) = .val (.dcu ks (vss.map .lst)) := rfl
end
end DL


/-! PL16: wp-equations for exceptions -/
namespace DL
open PySem L2
section
variable {ρ : Env'} {σ : Env2} {S : Sh} {QO : Out → Prop} {QX : Rz × Sh → Prop} {QA : (Ec ⊕ List D) × Sh → Prop} {QD : D × Sh → Prop} {dl : DA} {d : DE} {dx : DX} {xa : DXA} {keep : List Nat} {n np : Nat} {x : Str} {tab : List (Str × Bool)} {b b2 : DS} {su : Ec → DS} {c : Ec} {v : D} {vs : List D} {m : DXF} {dt : DT} {i : Nat}
def kRz (f : D → Prop) (g : Ec → Prop) : Rz → Prop
  | .ok d => f d
  | .ex c => g c
theorem kRz_ok {f : D → Prop} {g : Ec → Prop} : kRz f g (.ok v) = f v := rfl
theorem kRz_ex {f : D → Prop} {g : Ec → Prop} : kRz f g (.ex c) = g c := rfl
def kSm (f : Ec → Prop) (g : List D → Prop) : Ec ⊕ List D → Prop
  | .inl c => f c
  | .inr xs => g xs
theorem kSm_l {f : Ec → Prop} {g : List D → Prop} : kSm f g (.inl c) = f c := rfl
theorem kSm_r {f : Ec → Prop} {g : List D → Prop} : kSm f g (.inr vs) = g vs := rfl
theorem w_retX : wp (sRetX keep dx σ S) QO = wp (dx (fzE keep 0 σ) S) fun p => kRz (fun d => QO (.rt d p.2)) (fun c => QO (.ex c (frz keep 0 σ) p.2)) p.1 := by
  simp only [sRetX, wp_map]
  congr 1; funext p; rcases p with ⟨z, S⟩; cases z <;> rfl
theorem w_setX : wp (sSetX keep n dx σ S) QO = wp (dx (fzE keep 0 σ) S) fun p => kRz (fun d => QO (.nx ((frz keep 0 σ).set n (.val d)) p.2)) (fun c => QO (.ex c (frz keep 0 σ) p.2)) p.1 := by
  simp only [sSetX, wp_map]
  congr 1; funext p; rcases p with ⟨z, S⟩; cases z <;> rfl
theorem w_expX : wp (sExpX keep dx σ S) QO = wp (dx (fzE keep 0 σ) S) fun p => kRz (fun d => QO (.nx (frz keep 0 σ) p.2)) (fun c => QO (.ex c (frz keep 0 σ) p.2)) p.1 := by
  simp only [sExpX, wp_map]
  congr 1; funext p; rcases p with ⟨z, S⟩; cases z <;> rfl
theorem w_raise : wp (sRaise x σ S) QO = QO (.ex ⟨x, []⟩ σ S) := wp_some
theorem w_xFn : wp (xFn np m dl ρ S) QX = wp (dl ρ S) fun p => p.1.length = np ∧ wp (m p.1 p.2) QX := by simp only [xFn, wp_bind, wp_iteN]
theorem w_xD : wp (xD d ρ S) QX = wp (d ρ S) fun p => QX (.ok p.1, p.2) := by simp only [xD, wp_map]
theorem w_xNil : wp (xNil ρ S) QA = QA (.inr [], S) := wp_some
theorem w_xCons : wp (xCons dx xa ρ S) QA = wp (dx ρ S) fun p => kRz (fun x => wp (xa ρ p.2) fun q => kSm (fun c => QA (.inl c, q.2)) (fun xs => QA (.inr (x :: xs), q.2)) q.1) (fun c => QA (.inl c, p.2)) p.1 := by
  simp only [xCons, wp_bind]
  congr 1; funext p; rcases p with ⟨z, S⟩
  cases z with
  | ex c => simp only [kRz, wp_some]
  | ok x =>
    simp only [kRz, wp_bind]
    congr 1; funext q; rcases q with ⟨y, S⟩
    cases y <;> simp only [kSm, wp_some]
theorem w_xTup : wp (xTup xa ρ S) QX = wp (xa ρ S) fun p => kSm (fun c => QX (.ex c, p.2)) (fun xs => xs.length ≤ sizeLine ∧ QX (.ok (.tup xs), p.2)) p.1 := by
  simp only [xTup, wp_bind]
  congr 1; funext q; rcases q with ⟨y, S⟩
  cases y <;> simp only [kSm, wp_some, wp_iteN]
theorem w_xLst : wp (xLst xa ρ S) QX = wp (xa ρ S) fun p => kSm (fun c => QX (.ex c, p.2)) (fun xs => xs.length ≤ sizeLine ∧ QX (.ok (.lst xs), p.2)) p.1 := by
  simp only [xLst, wp_bind]
  congr 1; funext q; rcases q with ⟨y, S⟩
  cases y <;> simp only [kSm, wp_some, wp_iteN]
/-! functions -/
def kX (Q : Rz × Sh → Prop) : Out → Prop
  | .rt d S => Q (.ok d, S)
  | .nx _ S => Q (.ok .non, S)
  | .ro l S => Q (.ok (.lst l), S)
  | .ex c _ S => Q (.ex c, S)
  | _ => False
theorem kX_rt : kX QX (.rt v S) = QX (.ok v, S) := rfl
theorem kX_nx : kX QX (.nx σ S) = QX (.ok .non, S) := rfl
theorem kX_ro : kX QX (.ro vs S) = QX (.ok (.lst vs), S) := rfl
theorem kX_ex : kX QX (.ex c σ S) = QX (.ex c, S) := rfl
theorem w_fnX {body : DS} : wp (fnX np n body vs S) QX = (vs.length = np ∧ wp (body (envOf n vs) S) (kX QX)) := by
  simp only [fnX, wp_iteN, wp_bind]
  congr 1
  congr 1
  funext o
  cases o <;> simp [outX, kX, wp]
/-! try -/
def kSu (Q : Out → Prop) : Out → Prop
  | .ex _ _ _ => False
  | o => Q o
theorem kSu_nx : kSu QO (.nx σ S) = QO (.nx σ S) := rfl
theorem kSu_rt : kSu QO (.rt v S) = QO (.rt v S) := rfl
theorem kSu_ro : kSu QO (.ro vs S) = QO (.ro vs S) := rfl
def kTry (tab : List (Str × Bool)) (su : Ec → DS) (Q : Out → Prop) : Out → Prop
  | .ex c ρ S => wp (tab.lookup c.n) fun b => if b then wp (su c ρ S) (kSu Q) else Q (.ex c ρ S)
  | o => Q o
theorem kTry_ex : kTry tab su QO (.ex c σ S) = wp (tab.lookup c.n) fun b => if b then wp (su c σ S) (kSu QO) else QO (.ex c σ S) := rfl
theorem kTry_nx : kTry tab su QO (.nx σ S) = QO (.nx σ S) := rfl
theorem kTry_rt : kTry tab su QO (.rt v S) = QO (.rt v S) := rfl
theorem kTry_ro : kTry tab su QO (.ro vs S) = QO (.ro vs S) := rfl
theorem w_try : wp (sTry tab b su σ S) QO = wp (b σ S) (kTry tab su QO) := by
  simp only [sTry, wp_bind]
  congr 1
  funext o
  cases o with
  | ex c ρ S =>
    simp only [wp_bind, kTry, wp_ite, wp_some]
    congr 1
    funext b
    congr 2
    funext o2
    cases o2 <;> simp [kSu, wp]
  | _ => simp [kTry, wp]
def kClr (i : Nat) (Q : Out → Prop) : Out → Prop
  | .nx ρ S => Q (.nx (ρ.set i .no) S)
  | .bk ρ S => Q (.bk (ρ.set i .no) S)
  | .ct ρ S => Q (.ct (ρ.set i .no) S)
  | .ex _ _ _ => False
  | o => Q o
theorem kClr_nx : kClr i QO (.nx σ S) = QO (.nx (σ.set i .no) S) := rfl
theorem kClr_rt : kClr i QO (.rt v S) = QO (.rt v S) := rfl
theorem kClr_ro : kClr i QO (.ro vs S) = QO (.ro vs S) := rfl
def kTryAs (tab : List (Str × Bool)) (i : Nat) (su : Ec → DS) (Q : Out → Prop) : Out → Prop
  | .ex c ρ S => wp (tab.lookup c.n) fun b => if b then i < ρ.length ∧ wp (su c (ρ.set i .no) S) (kClr i Q) else Q (.ex c ρ S)
  | o => Q o
theorem kTryAs_ex : kTryAs tab i su QO (.ex c σ S) = wp (tab.lookup c.n) fun b => if b then i < σ.length ∧ wp (su c (σ.set i .no) S) (kClr i QO) else QO (.ex c σ S) := rfl
theorem kTryAs_nx : kTryAs tab i su QO (.nx σ S) = QO (.nx σ S) := rfl
theorem kTryAs_rt : kTryAs tab i su QO (.rt v S) = QO (.rt v S) := rfl
theorem kTryAs_ro : kTryAs tab i su QO (.ro vs S) = QO (.ro vs S) := rfl
theorem w_tryAs : wp (sTryAs tab i b su σ S) QO = wp (b σ S) (kTryAs tab i su QO) := by
  simp only [sTryAs, wp_bind]
  congr 1
  funext o
  cases o with
  | ex c ρ S =>
    have e : (fun o2 => wp (clrO i o2) QO) = kClr i QO := by
      funext o2
      cases o2 <;> simp [kClr, clrO, wp]
    simp only [wp_bind, kTryAs, wp_ite, wp_some, wp_none, e]
    congr 1
    funext b
    congr 1
    by_cases h : i < ρ.length <;> simp [h]
  | _ => simp [kTryAs, wp]
/-! suites -/
def kIfE (Q : Out → Prop) : Out → Prop
  | .nx _ _ => False
  | o => Q o
theorem kIfE_rt : kIfE QO (.rt v S) = QO (.rt v S) := rfl
theorem kIfE_ro : kIfE QO (.ro vs S) = QO (.ro vs S) := rfl
theorem w_ifEs : wp (sIfE dt b b2 σ S) QO = wp (dt (fzE [] 0 σ) S) fun p => if p.1 then wp (b σ p.2) (kIfE QO) else wp (b2 σ p.2) QO := by
  simp only [sIfE, wp_bind, wp_ite]
  congr 1
  funext p
  congr 2
  funext o
  cases o <;> simp [kIfE, wp]
theorem w_isE : wp (dIsE tab c ρ S) QD = (c.fs = [] ∧ wp (tab.lookup c.n) fun b => QD (.bl b, S)) := by simp only [dIsE, wp_iteN, wp_map]
theorem lk_hit {α : Type} {a : α} {k : Str} {r : List (Str × α)} {Q : α → Prop} : wp (((k, a) :: r).lookup k) Q = Q a := by
  rw [List.lookup_cons, beq_self_eq_true]
  exact wp_some
end
end DL


namespace G
open PySem L2 PyProof.Rows DL
def topS (i : Nat) : Stmt := PySem.Challenge.pw_rightchance_k11_schemas_and_others.main.body.getD i (.Pass ⟨0, 0, 0, 0⟩)
abbrev s_is_word : Stmt := topS 14
abbrev N_is_word : List Str := ["text", "char"]
theorem sc_is_word : FnScope N_is_word ["text"] (defScope s_is_word) := ⟨rfl, rfl, rfl, by decide +kernel, rfl, by decide +kernel, by decide +kernel⟩
abbrev s_check_schema : Stmt := topS 18
abbrev N_check_schema : List Str := ["schema", "index", "name", "columns"]
theorem sc_check_schema : FnScope N_check_schema ["schema"] (defScope s_check_schema) := ⟨rfl, rfl, rfl, by decide +kernel, rfl, by decide +kernel, by decide +kernel⟩
abbrev s_law_draws : Stmt := topS 20
abbrev N_law_draws : List Str := ["_law_script", "_law_many", "_law_cells", "_law_rest", "_law_draws_here", "_law_k", "_law_at", "_law_cell", "_law_mixed"]
theorem sc_law_draws : FnScope N_law_draws ["_law_script", "_law_many"] (defScope s_law_draws) := ⟨rfl, rfl, rfl, by decide +kernel, rfl, by decide +kernel, by decide +kernel⟩
abbrev s_law_take : Stmt := topS 21
abbrev N_law_take : List Str := ["_law_draws_here", "_law_many"]
theorem sc_law_take : FnScope N_law_take ["_law_draws_here", "_law_many"] (defScope s_law_take) := ⟨rfl, rfl, rfl, by decide +kernel, rfl, by decide +kernel, by decide +kernel⟩
abbrev s_law_pick : Stmt := topS 22
abbrev N_law_pick : List Str := ["_law_draws_here", "_law_row"]
theorem sc_law_pick : FnScope N_law_pick ["_law_draws_here", "_law_row"] (defScope s_law_pick) := ⟨rfl, rfl, rfl, by decide +kernel, rfl, by decide +kernel, by decide +kernel⟩
abbrev s_law_size : Stmt := topS 23
abbrev N_law_size : List Str := ["_law_draws_here", "_law_script", "_law_kind", "_law_number", "_law_k"]
theorem sc_law_size : FnScope N_law_size ["_law_draws_here", "_law_script"] (defScope s_law_size) := ⟨rfl, rfl, rfl, by decide +kernel, rfl, by decide +kernel, by decide +kernel⟩
abbrev s_law_same : Stmt := topS 24
abbrev N_law_same : List Str := ["_law_actual", "_law_due", "_law_k"]
theorem sc_law_same : FnScope N_law_same ["_law_actual", "_law_due"] (defScope s_law_same) := ⟨rfl, rfl, rfl, by decide +kernel, rfl, by decide +kernel, by decide +kernel⟩
abbrev s_law_is_word : Stmt := topS 25
abbrev N_law_is_word : List Str := ["_law_text", "_law_char"]
theorem sc_law_is_word : FnScope N_law_is_word ["_law_text"] (defScope s_law_is_word) := ⟨rfl, rfl, rfl, by decide +kernel, rfl, by decide +kernel, by decide +kernel⟩
abbrev s_law_words : Stmt := topS 26
abbrev N_law_words : List Str := ["_law_draws_here", "_law_many", "_law_words_here", "_law_k", "_law_size_here", "_law_word", "_law_j", "_law_other"]
theorem sc_law_words : FnScope N_law_words ["_law_draws_here", "_law_many"] (defScope s_law_words) := ⟨rfl, rfl, rfl, by decide +kernel, rfl, by decide +kernel, by decide +kernel⟩
abbrev s_law_strange : Stmt := topS 27
abbrev N_law_strange : List Str := ["_law_draws_here", "_law_word", "_law_sign", "_law_at"]
theorem sc_law_strange : FnScope N_law_strange ["_law_draws_here", "_law_word"] (defScope s_law_strange) := ⟨rfl, rfl, rfl, by decide +kernel, rfl, by decide +kernel, by decide +kernel⟩
abbrev s_law_any_schema : Stmt := topS 28
abbrev N_law_any_schema : List Str := ["_law_draws_here", "_law_words_here", "_law_many", "_law_found", "_law_name", "_law_columns"]
theorem sc_law_any_schema : FnScope N_law_any_schema ["_law_draws_here", "_law_words_here"] (defScope s_law_any_schema) := ⟨rfl, rfl, rfl, by decide +kernel, rfl, by decide +kernel, by decide +kernel⟩
abbrev s_law_is_schema : Stmt := topS 29
abbrev N_law_is_schema : List Str := ["_law_schema", "_law_names", "_law_table"]
theorem sc_law_is_schema : FnScope N_law_is_schema ["_law_schema"] (defScope s_law_is_schema) := ⟨rfl, rfl, rfl, by decide +kernel, rfl, by decide +kernel, by decide +kernel⟩
abbrev s_law_refused : Stmt := topS 30
abbrev N_law_refused : List Str := ["_law_schema", "e", "_law_found"]
theorem sc_law_refused : FnScope N_law_refused ["_law_schema"] (defScope s_law_refused) := ⟨rfl, rfl, rfl, by decide +kernel, rfl, by decide +kernel, by decide +kernel⟩
abbrev s_law_changed : Stmt := topS 31
abbrev N_law_changed : List Str := ["_law_draws_here", "_law_script", "_law_schema", "_law_words_here", "_law_tables", "_law_kind", "_law_at", "_law_name", "_law_columns", "_law_many", "_law_other", "_law_more", "_law_word", "_law_table"]
theorem sc_law_changed : FnScope N_law_changed ["_law_draws_here", "_law_script", "_law_schema", "_law_words_here"] (defScope s_law_changed) := ⟨rfl, rfl, rfl, by decide +kernel, rfl, by decide +kernel, by decide +kernel⟩
abbrev s_law : Stmt := topS 32
abbrev N_law : List Str := ["_law_script", "_law_draws_here", "_law_words_here", "_law_schema", "_law_other"]
theorem sc_law : FnScope N_law ["_law_script"] (defScope s_law) := ⟨rfl, rfl, rfl, by decide +kernel, rfl, by decide +kernel, by decide +kernel⟩
def b_is_word  : DS := (sRet [] (dAndV (d2 neO (dV 0) (dC (.str ""))) (dCall allO (dCons (dFz (nComp (iSeq (dV 0)) (.n 1) [1] dtYes (d2 inO (dV 1) (dC (.str "abcdefghijklmnopqrstuvwxyz"))))) dNil))))
def m_is_word : DF := fnD 1 2 b_is_word
abbrev l_check_schema_1  : DS := (sIf [] (dOr (dNot (dtE (dFn 1 m_is_word (dCons (dV 2) dNil)))) (dOr (dtE (d2 ltO (dV 3) (dC (.int 0)))) (dtE (d2 gtO (dV 3) (dC (.int 8)))))) sNever sPass)
abbrev l_check_schema_2  : DS := (sIf [] (dtE (d2 geO (d2 idxD (d2 idxD (dV 0) (dV 1)) (dC (.int 0))) (d2 idxD (d2 idxD (dV 0) (d2 addD (dV 1) (dC (.int 1)))) (dC (.int 0))))) sNever sPass)
def b_check_schema  : DS := (sSeq (sIf [] (dtE (d2 gtO (dLen (dV 0)) (dC (.int 20)))) sNever sPass)
  (sSeq (sFor [] (iSeq (dV 0)) (.t [(.n 2), (.n 3)]) l_check_schema_1)
  (sFor [] (iRg rng1O (dCons (d2 subD (dLen (dV 0)) (dC (.int 1))) dNil)) (.n 1) l_check_schema_2)))
def m_check_schema : DF := fnD 1 4 b_check_schema
abbrev lX_check_schema_1 : DS := (sIf [] (dOr (dNot (dtE (dFn 1 m_is_word (dCons (dV 2) dNil)))) (dOr (dtE (d2 ltO (dV 3) (dC (.int 0)))) (dtE (d2 gtO (dV 3) (dC (.int 8)))))) (sRaise "NoSchema") sPass)
abbrev lX_check_schema_2 : DS := (sIf [] (dtE (d2 geO (d2 idxD (d2 idxD (dV 0) (dV 1)) (dC (.int 0))) (d2 idxD (d2 idxD (dV 0) (d2 addD (dV 1) (dC (.int 1)))) (dC (.int 0))))) (sRaise "NoSchema") sPass)
def bX_check_schema : DS := (sSeq (sIf [] (dtE (d2 gtO (dLen (dV 0)) (dC (.int 20)))) (sRaise "NoSchema") sPass)
  (sSeq (sFor [] (iSeq (dV 0)) (.t [(.n 2), (.n 3)]) lX_check_schema_1)
  (sFor [] (iRg rng1O (dCons (d2 subD (dLen (dV 0)) (dC (.int 1))) dNil)) (.n 1) lX_check_schema_2)))
def mX_check_schema : DXF := fnX 1 4 bX_check_schema
abbrev l_law_draws_1  : DS := (sSeq (sSetF [2] 6 (d2 modD (dV 5) (dLen (dV 2))))
  (sIf [2] (dtE (d2 geO (d2 idxD (dV 2) (dV 6)) (d2 powD (dC (.int 10)) (dC (.int 18))))) (sSeq (sMutP appendO [3] 4 (d2 modD (dCall intO (dCons (d2 idxD (dV 3) (dV 6)) dNil)) (dC (.int 1000))))
  (sSetIP [3] [] 3 (d2 fdivD (d2 idxD (dV 3) (dV 6)) (dC (.int 1000))) (dV 6))) (sSeq (sSetF [2] 8 (d2 modD (dCall intO (dCons (d2 addD (d2 addD (d2 mulD (d2 idxD (dV 2) (dV 6)) (dC (.int 48271))) (d2 mulD (dV 5) (dC (.int 69621)))) (dC (.int 11))) dNil)) (dC (.int 2147483647))))
  (sMutF appendO [] 4 (d2 modD (dCall intO (dCons (d2 addD (d2 addD (d2 mulD (dV 8) (dV 8)) (d2 mulD (dC (.int 3)) (dV 8))) (dV 5)) dNil)) (dC (.int 1000003)))))))
def b_law_draws  : DS := (sSeq (sSetO [] 2 (nComp (iSeq (dV 0)) (.n 7) [7] dtYes (dCall intO (dCons (dV 7) dNil))))
  (sSeq (sIf [2] (dtE (d2 eqO (dLen (dV 2)) (dC (.int 0)))) (sMutF appendO [] 2 (dC (.int 0))) sPass)
  (sSeq (sSetO [2] 3 (nList (dV 2)))
  (sSeq (sSetO [] 4 (nLst dNil))
  (sSeq (sFor [] (iRg rng1O (dCons (dV 1) dNil)) (.n 5) l_law_draws_1)
  (sSeq (sOwn0 List.reverse 4)
  (sRetO 4)))))))
def m_law_draws : DF := fnD 2 9 b_law_draws
def mN_law_draws : NF := fnN 2 9 b_law_draws
def b_law_take  : DS := (sSeq (sIf [] (dtE (d2 eqO (dLen (dV 0)) (dC (.int 0)))) (sRet [] (dC (.int 0))) sPass)
  (sRet [] (d2 modD (dCall intO (dCons (dPopS (dV 0)) dNil)) (dV 1))))
def m_law_take : DF := fnD 2 2 b_law_take
def b_law_pick  : DS := (sRet [] (d2 idxD (dV 1) (dFn 2 m_law_take (dCons (dV 0) (dCons (dLen (dV 1)) dNil)))))
def m_law_pick : DF := fnD 2 2 b_law_pick
abbrev l_law_size_1  : DS := (sSetF [] 3 (d2 addD (d2 mulD (dV 3) (dC (.int 1000))) (dFn 2 m_law_take (dCons (dV 0) (dCons (dC (.int 1000)) dNil)))))
def b_law_size  : DS := (sSeq (sSetF [] 2 (dFn 2 m_law_take (dCons (dV 0) (dCons (dC (.int 8)) dNil))))
  (sSeq (sIf [] (dtE (d2 ltO (dV 2) (dC (.int 5)))) (sRet [] (dFn 2 m_law_take (dCons (dV 0) (dCons (dC (.int 12)) dNil)))) sPass)
  (sSeq (sIf [] (dtE (d2 eqO (dV 2) (dC (.int 5)))) (sRet [] (dFn 2 m_law_take (dCons (dV 0) (dCons (dC (.int 100)) dNil)))) sPass)
  (sSeq (sIf [] (dOr (dtE (d2 eqO (dV 2) (dC (.int 6)))) (dtE (d2 eqO (dLen (dV 1)) (dC (.int 0))))) (sSeq (sSetF [] 3 (dC (.int 0)))
  (sSeq (sFor [] (iRg rng1O (dCons (dC (.int 5)) dNil)) (.n 4) l_law_size_1)
  (sRet [] (dV 3)))) sPass)
  (sRet [] (dCall absO (dCons (dCall intO (dCons (d2 idxD (dV 1) (dFn 2 m_law_take (dCons (dV 0) (dCons (dLen (dV 1)) dNil)))) dNil)) dNil)))))))
def m_law_size : DF := fnD 2 5 b_law_size
def b_law_same (r_law_same : DF) : DS := (sSeq (sIf [] (dtE (d1 (isiD ["tuple", "list"]) (dV 1))) (sSeq (sIf [] (dOr (dtE (d2 neO (d1 (isiD ["tuple"]) (dV 0)) (d1 (isiD ["tuple"]) (dV 1)))) (dtE (d2 neO (d1 (isiD ["list"]) (dV 0)) (d1 (isiD ["list"]) (dV 1))))) (sRet [] (dC (.bl false))) sPass)
  (sSeq (sIf [] (dtE (d2 neO (dLen (dV 0)) (dLen (dV 1)))) (sRet [] (dC (.bl false))) sPass)
  (sRet [] (d2 ninO (dC (.bl false)) (dFz (nComp (iRg rng1O (dCons (dLen (dV 1)) dNil)) (.n 2) [2] dtYes (dFn 2 r_law_same (dCons (d2 idxD (dV 0) (dV 2)) (dCons (d2 idxD (dV 1) (dV 2)) dNil))))))))) sPass)
  (sSeq (sIf [] (dOr (dtE (d2 neO (d1 (isiD ["bool"]) (dV 0)) (d1 (isiD ["bool"]) (dV 1)))) (dtE (d2 neO (d1 (isiD ["int"]) (dV 0)) (d1 (isiD ["int"]) (dV 1))))) (sRet [] (dC (.bl false))) sPass)
  (sSeq (sIf [] (dOr (dtE (d2 neO (d1 (isiD ["str"]) (dV 0)) (d1 (isiD ["str"]) (dV 1)))) (dtE (d2 neO (d2 isO (dV 0) (dC .non)) (d2 isO (dV 1) (dC .non))))) (sRet [] (dC (.bl false))) sPass)
  (sRet [] (d2 eqO (dV 0) (dV 1))))))
def m_law_same : Nat → DF
  | 0 => fun _ _ => none
  | n + 1 => fnD 2 3 (b_law_same (m_law_same n))
def b_law_is_word  : DS := (sRet [] (dAndV (d2 neO (dV 0) (dC (.str ""))) (d2 eqO (dLen (dFz (nComp (iSeq (dV 0)) (.n 1) [1] (dtE (d2 ninO (dV 1) (dC (.str "abcdefghijklmnopqrstuvwxyz")))) (dV 1)))) (dC (.int 0)))))
def m_law_is_word : DF := fnD 1 2 b_law_is_word
abbrev l_law_words_1  : DS := (sSeq (sSetF [] 4 (d2 addD (dC (.int 1)) (dFn 2 m_law_take (dCons (dV 0) (dCons (dC (.int 3)) dNil)))))
  (sSeq (sIf [] (dtE (d2 eqO (dFn 2 m_law_take (dCons (dV 0) (dCons (dC (.int 9)) dNil))) (dC (.int 0)))) (sSetF [] 4 (d2 addD (d2 addD (dV 4) (dC (.int 3))) (dFn 2 m_law_take (dCons (dV 0) (dCons (dC (.int 20)) dNil))))) sPass)
  (sSeq (sSetF [] 5 (d2 joinO (dC (.str "")) (dFz (nComp (iRg rng1O (dCons (dV 4) dNil)) (.n 6) [6] dtYes (d2 idxD (dC (.str "abcdefghijklmnopqrstuvwxyz")) (dFn 2 m_law_take (dCons (dV 0) (dCons (dC (.int 26)) dNil))))))))
  (sSeq (sIf [2] (dAnd (dtE (d2 gtO (dLen (dV 2)) (dC (.int 0)))) (dtE (d2 eqO (dFn 2 m_law_take (dCons (dV 0) (dCons (dC (.int 6)) dNil))) (dC (.int 0))))) (sSetP [2] 5 (d2 addD (dFn 2 m_law_pick (dCons (dV 0) (dCons (dV 2) dNil))) (d2 idxD (dC (.str "abcdefghijklmnopqrstuvwxyz")) (dFn 2 m_law_take (dCons (dV 0) (dCons (dC (.int 26)) dNil)))))) sPass)
  (sSeq (sIf [2] (dtE (d2 inO (dV 5) (dV 2))) (sSetP [2] 5 (d2 mulXD (dC (.str "z")) (d2 addD (dC (.int 1)) (dCall maxO (dCons (dFz (nComp (iSeq (dV 2)) (.n 7) [7] dtYes (dLen (dV 7)))) dNil))))) sPass)
  (sMutF appendO [] 2 (dV 5)))))))
def b_law_words  : DS := (sSeq (sSetO [] 2 (nLst dNil))
  (sSeq (sFor [] (iRg rng1O (dCons (dV 1) dNil)) (.n 3) l_law_words_1)
  (sRetO 2)))
def m_law_words : DF := fnD 2 8 b_law_words
def b_law_strange  : DS := (sSeq (sSetF [] 2 (dFn 2 m_law_pick (dCons (dV 0) (dCons (dFz (nLst (dCons (dC (.str " ")) (dCons (dC (.str "A")) (dCons (dC (.str "Z")) (dCons (dC (.str "0")) (dCons (dC (.str "9")) (dCons (dC (.str "_")) (dCons (dC (.str "-")) (dCons (dC (.str "(")) (dCons (dC (.str "|")) (dCons (dC (.str "~")) (dCons (dC (.str "{")) (dCons (dC (.str "`")) (dCons (dC (.str "@")) (dCons (dC (.str "[")) (dCons (dC (.str "\n")) dNil))))))))))))))))) dNil))))
  (sSeq (sSetF [] 3 (dFn 2 m_law_take (dCons (dV 0) (dCons (d2 addD (dLen (dV 1)) (dC (.int 1))) dNil))))
  (sRet [] (d2 idxD (dFz (nLst (dCons (dC (.str "")) (dCons (d2 addD (d2 addD (dSl (dV 1) oNo (oPart (dV 3))) (dV 2)) (dSl (dV 1) (oPart (dV 3)) oNo)) dNil)))) (dCall intO (dCons (d2 gtO (dFn 2 m_law_take (dCons (dV 0) (dCons (dC (.int 6)) dNil))) (dC (.int 0))) dNil))))))
def m_law_strange : DF := fnD 2 4 b_law_strange
abbrev l_law_any_schema_1  : DS := (sSeq (sSetF [] 5 (d2 idxD (dFz (nLst (dCons (dC (.int 2)) (dCons (dC (.int 1)) (dCons (dC (.int 3)) (dCons (dC (.int 0)) (dCons (dC (.int 2)) (dCons (dC (.int 1)) dNil)))))))) (dFn 2 m_law_take (dCons (dV 0) (dCons (dC (.int 6)) dNil)))))
  (sSeq (sIf [] (dtE (d2 eqO (dFn 2 m_law_take (dCons (dV 0) (dCons (dC (.int 6)) dNil))) (dC (.int 0)))) (sSetF [] 5 (dFn 2 m_law_take (dCons (dV 0) (dCons (dC (.int 9)) dNil)))) sPass)
  (sMutF appendO [] 3 (dTup (dCons (dV 4) (dCons (dV 5) dNil))))))
def b_law_any_schema  : DS := (sSeq (sSetF [] 2 (d2 addD (dC (.int 1)) (dFn 2 m_law_take (dCons (dV 0) (dCons (dC (.int 4)) dNil)))))
  (sSeq (sIf [] (dtE (d2 eqO (dFn 2 m_law_take (dCons (dV 0) (dCons (dC (.int 6)) dNil))) (dC (.int 0)))) (sSetF [] 2 (dFn 2 m_law_take (dCons (dV 0) (dCons (dC (.int 21)) dNil)))) sPass)
  (sSeq (sSetO [] 3 (nLst dNil))
  (sSeq (sFor [] (iSeq (dFz (nSort (dSl (dV 1) oNo (oPart (dV 2)))))) (.n 4) l_law_any_schema_1)
  (sRet [3] (dCall tupleO (dCons (dV 3) dNil)))))))
def m_law_any_schema : DF := fnD 2 6 b_law_any_schema
abbrev l_law_is_schema_1  : DS := (sIf [] (dOr (dNot (dtE (dFn 1 m_law_is_word (dCons (d2 idxD (dV 2) (dC (.int 0))) dNil)))) (dOr (dtE (d2 ltO (d2 idxD (dV 2) (dC (.int 1))) (dC (.int 0)))) (dtE (d2 gtO (d2 idxD (dV 2) (dC (.int 1))) (dC (.int 8)))))) (sRet [] (dC (.bl false))) sPass)
def b_law_is_schema  : DS := (sSeq (sSetF [] 1 (dFz (nComp (iSeq (dV 0)) (.n 2) [2] dtYes (d2 idxD (dV 2) (dC (.int 0))))))
  (sSeq (sIf [] (dOr (dtE (d2 gtO (dLen (dV 0)) (dC (.int 20)))) (dtE (d2 neO (dV 1) (dFz (nSortSet (dV 1)))))) (sRet [] (dC (.bl false))) sPass)
  (sSeq (sFor [] (iSeq (dV 0)) (.n 2) l_law_is_schema_1)
  (sRet [] (dC (.bl true))))))
def m_law_is_schema : DF := fnD 1 3 b_law_is_schema
def b_law_refused  : DS := (sSeq (sTryAs [("NoSchema", true)] 1 (sSetX [] 2 (xFn 1 mX_check_schema (dCons (dV 0) dNil)))
  (fun c => (sIfE (dtE (dIsE [("NoSchema", false)] c)) (sRet [] (dC .non))
  (sIfE (dNot (dtE (dIsE [("NoSchema", true)] c))) (sRet [] (dC .non))
  (sIfE (dNot (dtE (dIsE [("NoSchema", true)] c))) (sRet [] (dC .non))
  (sRet [] (dC (.bl true))))))))
  (sSeq (sIf [] (dtE (d2 isnO (dV 2) (dC .non))) (sRet [] (dC .non)) sPass)
  (sRet [] (dC (.bl false)))))
def m_law_refused : DF := fnD 1 3 b_law_refused
def b_law_changed  : DS := (sSeq (sSetO [] 4 (nList (dV 2)))
  (sSeq (sSetF [] 5 (dFn 2 m_law_take (dCons (dV 0) (dCons (dC (.int 7)) dNil))))
  (sSeq (sSetP [4] 6 (dFn 2 m_law_take (dCons (dV 0) (dCons (dLen (dV 4)) dNil))))
  (sSeq (sSetP [4] 7 (d2 idxD (d2 idxD (dV 4) (dV 6)) (dC (.int 0))))
  (sSeq (sSetP [4] 8 (d2 idxD (d2 idxD (dV 4) (dV 6)) (dC (.int 1))))
  (sSeq (sIf [] (dtE (d2 eqO (dV 5) (dC (.int 0)))) (sSetIP [] [] 4 (dTup (dCons (dFn 2 m_law_strange (dCons (dV 0) (dCons (dV 7) dNil))) (dCons (dV 8) dNil))) (dV 6)) sPass)
  (sSeq (sIf [] (dtE (d2 eqO (dV 5) (dC (.int 1)))) (sSeq (sSetF [] 9 (dFz (nLst (dCons (d1 negD (dC (.int 1))) (dCons (dC (.int 8)) (dCons (dC (.int 9)) (dCons (d2 subD (dC (.int 0)) (dFn 2 m_law_size (dCons (dV 0) (dCons (dV 1) dNil)))) (dCons (dFn 2 m_law_size (dCons (dV 0) (dCons (dV 1) dNil))) dNil))))))))
  (sSetIP [] [] 4 (dTup (dCons (dV 7) (dCons (dFn 2 m_law_pick (dCons (dV 0) (dCons (dV 9) dNil))) dNil))) (dV 6))) sPass)
  (sSeq (sIf [] (dtE (d2 eqO (dV 5) (dC (.int 2)))) (sSeq (sSetP [4] 10 (dFn 2 m_law_take (dCons (dV 0) (dCons (dLen (dV 4)) dNil))))
  (sSeq (sSetIP [4] [] 4 (d2 idxD (dV 4) (dV 10)) (dV 6))
  (sSetIP [] [] 4 (dTup (dCons (dV 7) (dCons (dV 8) dNil))) (dV 10)))) sPass)
  (sSeq (sIf [] (dtE (d2 eqO (dV 5) (dC (.int 3)))) (sMutAP insertO [4] 4 (dCons (dFn 2 m_law_take (dCons (dV 0) (dCons (d2 addD (dLen (dV 4)) (dC (.int 1))) dNil))) (dCons (dTup (dCons (dV 7) (dCons (dFn 2 m_law_take (dCons (dV 0) (dCons (dC (.int 3)) dNil))) dNil))) dNil))) sPass)
  (sSeq (sIf [] (dtE (d2 eqO (dV 5) (dC (.int 4)))) (sSetIP [] [] 4 (dTup (dCons (d2 addD (dV 7) (dC (.str "z"))) (dCons (dV 8) dNil))) (dV 6)) sPass)
  (sSeq (sIf [] (dtE (d2 gtO (dV 5) (dC (.int 4)))) (sSeq (sSetF [4] 11 (dFz (nSort (d2 addD (dFz (nComp (iSeq (dV 4)) (.n 13) [13] dtYes (d2 idxD (dV 13) (dC (.int 0))))) (dFz (nComp (iSeq (dV 3)) (.n 12) [12] (dtE (d2 ninO (d2 addD (dC (.str "q")) (dV 12)) (dV 3))) (d2 addD (dC (.str "q")) (dV 12))))))))
  (sSetO [] 4 (nComp (iSeq (dSl (dV 11) oNo (oPart (d2 addD (dC (.int 20)) (dFn 2 m_law_take (dCons (dV 0) (dCons (dC (.int 3)) dNil))))))) (.n 12) [12] dtYes (dTup (dCons (dV 12) (dCons (dC (.int 1)) dNil)))))) sPass)
  (sRet [4] (dCall tupleO (dCons (dV 4) dNil))))))))))))))
def m_law_changed : DF := fnD 4 14 b_law_changed
def b_law  : DS := (sSeq (sShare [] 1 (nFn 2 mN_law_draws (dCons (dV 0) (dCons (dC (.int 400)) dNil))))
  (sSeq (sSetF [] 2 (dFn 2 m_law_words (dCons (dV 1) (dCons (dC (.int 22)) dNil))))
  (sSeq (sSetF [] 3 (dFn 2 m_law_any_schema (dCons (dV 1) (dCons (dSl (dV 2) oNo (oPart (dC (.int 21)))) dNil))))
  (sSeq (sIf [] (dNot (dtE (dFn 2 (m_law_same 12) (dCons (dFn 1 m_law_refused (dCons (dV 3) dNil)) (dCons (dC (.bl false)) dNil))))) (sRet [] (dC (.bl false))) sPass)
  (sSeq (sIf [] (dtE (d2 eqO (dLen (dV 3)) (dC (.int 0)))) (sRet [] (dC (.bl true))) sPass)
  (sSeq (sSetF [] 4 (dFn 4 m_law_changed (dCons (dV 1) (dCons (dV 0) (dCons (dV 3) (dCons (dV 2) dNil))))))
  (sSeq (sIf [] (dNot (dtE (dFn 2 (m_law_same 12) (dCons (dFn 1 m_law_refused (dCons (dV 4) dNil)) (dCons (d1 notD (dFn 1 m_law_is_schema (dCons (dV 4) dNil))) dNil))))) (sRet [] (dC (.bl false))) sPass)
  (sRet [] (dFn 2 (m_law_same 12) (dCons (dFn 1 m_law_refused (dCons (dV 3) dNil)) (dCons (dC (.bl false)) dNil)))))))))))
def m_law : DF := fnD 1 5 b_law
structure Txt (K : PySem.W.Frag) (mg : Str → Option Value) : Prop where
  f_ValueError : mg "ValueError" = none
  f_abs : mg "abs" = none
  f_all : mg "all" = none
  f_bool : mg "bool" = none
  f_int : mg "int" = none
  f_isinstance : mg "isinstance" = none
  f_len : mg "len" = none
  f_list : mg "list" = none
  f_max : mg "max" = none
  f_range : mg "range" = none
  f_set : mg "set" = none
  f_sorted : mg "sorted" = none
  f_str : mg "str" = none
  f_tuple : mg "tuple" = none
  c_LETTERS : ∃ t, mg "LETTERS" = some (.str "abcdefghijklmnopqrstuvwxyz" t)
  c_MOST_COLUMNS : ∃ t, mg "MOST_COLUMNS" = some (.int 8 t)
  c_MOST_TABLES : ∃ t, mg "MOST_TABLES" = some (.int 20 t)
  d_is_word : Stand K mg "is_word" s_is_word ["text"]
  d_check_schema : Stand K mg "check_schema" s_check_schema ["schema"]
  d_law_draws : Stand K mg "_law_draws" s_law_draws ["_law_script", "_law_many"]
  d_law_take : Stand K mg "_law_take" s_law_take ["_law_draws_here", "_law_many"]
  d_law_pick : Stand K mg "_law_pick" s_law_pick ["_law_draws_here", "_law_row"]
  d_law_size : Stand K mg "_law_size" s_law_size ["_law_draws_here", "_law_script"]
  d_law_same : Stand K mg "_law_same" s_law_same ["_law_actual", "_law_due"]
  d_law_is_word : Stand K mg "_law_is_word" s_law_is_word ["_law_text"]
  d_law_words : Stand K mg "_law_words" s_law_words ["_law_draws_here", "_law_many"]
  d_law_strange : Stand K mg "_law_strange" s_law_strange ["_law_draws_here", "_law_word"]
  d_law_any_schema : Stand K mg "_law_any_schema" s_law_any_schema ["_law_draws_here", "_law_words_here"]
  d_law_is_schema : Stand K mg "_law_is_schema" s_law_is_schema ["_law_schema"]
  d_law_refused : Stand K mg "_law_refused" s_law_refused ["_law_schema"]
  d_law_changed : Stand K mg "_law_changed" s_law_changed ["_law_draws_here", "_law_script", "_law_schema", "_law_words_here"]
  d_law : Stand K mg "law" s_law ["_law_script"]
  x_NoSchema : ExF K mg "NoSchema"
  k_ChanceError : Catch K mg "ChanceError" [("NoSchema", true)]
  i_t9_BadText959 : IsF K mg (oc K ["BadText", "DoubleFact", "NoChance", "NoFact", "NoKept", "NoPlan", "NoQuestion", "NoRow", "NoShare"]) [("NoSchema", false)]
  g_NoShare : mg "NoShare" = some (.ref (He.ga K "NoShare"))
  g_NoRow : mg "NoRow" = some (.ref (He.ga K "NoRow"))
  g_NoQuestion : mg "NoQuestion" = some (.ref (He.ga K "NoQuestion"))
  g_NoPlan : mg "NoPlan" = some (.ref (He.ga K "NoPlan"))
  g_NoKept : mg "NoKept" = some (.ref (He.ga K "NoKept"))
  g_NoFact : mg "NoFact" = some (.ref (He.ga K "NoFact"))
  g_NoChance : mg "NoChance" = some (.ref (He.ga K "NoChance"))
  g_DoubleFact : mg "DoubleFact" = some (.ref (He.ga K "DoubleFact"))
  g_BadText : mg "BadText" = some (.ref (He.ga K "BadText"))
  i_ValueError : IsF K mg [.type "ValueError"] [("NoSchema", true)]
  i_NoSchema : IsF K mg (oc K ["NoSchema"]) [("NoSchema", true)]
  g_NoSchema : mg "NoSchema" = some (.ref (He.ga K "NoSchema"))
section
variable {P : Program} {w : World} {K : PySem.W.Frag} {mg : Str → Option Value} {base : Heap}
theorem ok_is_word (T : Txt K mg) : Callee P w K mg base "is_word" 1 ["text"] (spD ⟨K, w⟩ 1 m_is_word) := T.d_is_word.okD (k := 0) sc_is_word fun f xw cdv A outer s H E hr tk => by
  unfold b_is_word
  exact (dpss_one (dps_ret [] (dpe_and (dpe_cmp (od_ne hr.units) (dpv 0) dpe_str (nomark _)) (dpe_one (dpe_cb (cd_all rfl) T.f_all bt_all (dpa_cons (PN.fz (dn_comp (own := [("char", 1)]) rfl sc_is_word.nd (dpi_seq (dpv 0)) (blkOk_by (N := N_is_word) (sc := defScope s_is_word) (by decide +kernel)) (fun _ _ _ _ _ => (pg_name (i := 1) sc_is_word.nd rfl (by first | exact Or.inl rfl | exact Or.inr rfl))) (fun _ _ _ _ _ => dpts_nil) (fun _ _ _ _ _ => (dpe_cmp (od_in hr.units) (dpv 1) (dpe_gs T.c_LETTERS) (by rfl))))) dpa_nil))))))
theorem ok_check_schema (T : Txt K mg) : Callee P w K mg base "check_schema" 2 ["schema"] (spD ⟨K, w⟩ 1 m_check_schema) := T.d_check_schema.okD (k := 1) sc_check_schema fun f xw cdv A outer s H E hr tk => by
  unfold b_check_schema
  exact (dpss_cons (dps_if [] (dpt_cmp od_gt (dpe_len T.f_len (dpv 0)) (dpe_gi T.c_MOST_TABLES) (nomark _)) (dpss_one dps_never) dpss_nil) (dpss_cons (dps_for [] pass_never rfl (dpi_seq (dpv 0)) (pg_tup rfl (pgs_cons (pg_name (i := 2) sc_check_schema.nd rfl (by first | exact Or.inl rfl | exact Or.inr rfl)) (pgs_cons (pg_name (i := 3) sc_check_schema.nd rfl (by first | exact Or.inl rfl | exact Or.inr rfl)) pgs_nil))) (dpss_one (dps_if [] (dpt_w (dpw_or (dpt_not (dpt_val (dpe_cl (ok_is_word T) hr (dpa_cons (dpv 2) dpa_nil)))) (dpw_or (dpt_cmp od_lt (dpv 3) dpe_int (nomark _)) (dpw_or1 (dpt_cmp od_gt (dpv 3) (dpe_gi T.c_MOST_COLUMNS) (nomark _)))))) (dpss_one dps_never) dpss_nil))) (dpss_one (dps_for [] pass_never rfl (dpi_range1 (by rfl) T.f_range (dpa_cons (dpe_sub (dpe_len T.f_len (dpv 0)) dpe_int) dpa_nil)) (pg_name (i := 1) sc_check_schema.nd rfl (by first | exact Or.inl rfl | exact Or.inr rfl)) (dpss_one (dps_if [] (dpt_cmp od_ge (dpe_ix (dpe_ix (dpv 0) (dpv 1) (fun _ _ => rfl)) dpe_int (fun _ _ => rfl)) (dpe_ix (dpe_ix (dpv 0) (dpe_add (dpv 1) dpe_int) (fun _ _ => rfl)) dpe_int (fun _ _ => rfl)) (nomark _)) (dpss_one dps_never) dpss_nil))))))
theorem okX_check_schema (T : Txt K mg) : CalleeX P w K mg base "check_schema" 2 ["schema"] (spX ⟨K, w⟩ mg 1 mX_check_schema) := T.d_check_schema.okX (k := 1) sc_check_schema fun f xw cdv A outer s H E hr tk po => by
  unfold bX_check_schema
  exact (dpss_cons (dps_if [] (dpt_cmp od_gt (dpe_len T.f_len (dpv 0)) (dpe_gi T.c_MOST_TABLES) (nomark _)) (dpss_one (dps_raise T.x_NoSchema rfl tk)) dpss_nil) (dpss_cons (dps_for [] po rfl (dpi_seq (dpv 0)) (pg_tup rfl (pgs_cons (pg_name (i := 2) sc_check_schema.nd rfl (by first | exact Or.inl rfl | exact Or.inr rfl)) (pgs_cons (pg_name (i := 3) sc_check_schema.nd rfl (by first | exact Or.inl rfl | exact Or.inr rfl)) pgs_nil))) (dpss_one (dps_if [] (dpt_w (dpw_or (dpt_not (dpt_val (dpe_cl (ok_is_word T) hr (dpa_cons (dpv 2) dpa_nil)))) (dpw_or (dpt_cmp od_lt (dpv 3) dpe_int (nomark _)) (dpw_or1 (dpt_cmp od_gt (dpv 3) (dpe_gi T.c_MOST_COLUMNS) (nomark _)))))) (dpss_one (dps_raise T.x_NoSchema rfl tk)) dpss_nil))) (dpss_one (dps_for [] po rfl (dpi_range1 (by rfl) T.f_range (dpa_cons (dpe_sub (dpe_len T.f_len (dpv 0)) dpe_int) dpa_nil)) (pg_name (i := 1) sc_check_schema.nd rfl (by first | exact Or.inl rfl | exact Or.inr rfl)) (dpss_one (dps_if [] (dpt_cmp od_ge (dpe_ix (dpe_ix (dpv 0) (dpv 1) (fun _ _ => rfl)) dpe_int (fun _ _ => rfl)) (dpe_ix (dpe_ix (dpv 0) (dpe_add (dpv 1) dpe_int) (fun _ _ => rfl)) dpe_int (fun _ _ => rfl)) (nomark _)) (dpss_one (dps_raise T.x_NoSchema rfl tk)) dpss_nil))))))
theorem ok_law_draws (T : Txt K mg) : Callee P w K mg base "_law_draws" 1 ["_law_script", "_law_many"] (spD ⟨K, w⟩ 2 m_law_draws) := T.d_law_draws.okD (k := 0) sc_law_draws fun f xw cdv A outer s H E hr tk => by
  unfold b_law_draws
  exact (dpss_cons (by first | exact (setO_of [] (asg_comp (own := [("_law_cell", 7)]) rfl sc_law_draws.nd rfl rfl (sw_true rfl rfl rfl (by decide +kernel)) (dpi_seq (dpv 0)) (blkOk_by (N := N_law_draws) (sc := defScope s_law_draws) (by decide +kernel)) (fun _ _ _ _ _ => (pg_name (i := 7) sc_law_draws.nd rfl (by first | exact Or.inl rfl | exact Or.inr rfl))) (fun _ _ _ _ _ => dpts_nil) (fun _ _ _ _ _ => (dpe_ct cd_int T.f_int bt_int (dpa_cons (dpv 7) dpa_nil))))) | exact (dps_setO [] (i := 2) sc_law_draws.nd rfl (by first | exact Or.inl rfl | exact Or.inr rfl) (dn_comp (own := [("_law_cell", 7)]) rfl sc_law_draws.nd (dpi_seq (dpv 0)) (blkOk_by (N := N_law_draws) (sc := defScope s_law_draws) (by decide +kernel)) (fun _ _ _ _ _ => (pg_name (i := 7) sc_law_draws.nd rfl (by first | exact Or.inl rfl | exact Or.inr rfl))) (fun _ _ _ _ _ => dpts_nil) (fun _ _ _ _ _ => (dpe_ct cd_int T.f_int bt_int (dpa_cons (dpv 7) dpa_nil)))))) (dpss_cons (dps_if [2] (dpt_cmp (od_eq hr.units) (dpe_len T.f_len (dpv 2)) dpe_int (nomark _)) (dpss_one (dps_appF [] (app_rule [] (pv 2) dpe_int))) dpss_nil) (dpss_cons (dps_setO [2] (i := 3) sc_law_draws.nd rfl (by first | exact Or.inl rfl | exact Or.inr rfl) (dn_list T.f_list (dpv 2))) (dpss_cons (dps_setO [] (i := 4) sc_law_draws.nd rfl (by first | exact Or.inl rfl | exact Or.inr rfl) (dn_lst dpa_nil)) (dpss_cons (dps_for [] pass_never rfl (dpi_range1 (by rfl) T.f_range (dpa_cons (dpv 1) dpa_nil)) (pg_name (i := 5) sc_law_draws.nd rfl (by first | exact Or.inl rfl | exact Or.inr rfl)) (dpss_cons (dps_setF [2] (i := 6) sc_law_draws.nd rfl (by first | exact Or.inl rfl | exact Or.inr rfl) (dpe_mod (dpv 5) (dpe_len T.f_len (dpv 2)))) (dpss_one (dps_if [2] (dpt_cmp od_ge (dpe_ix (dpv 2) (dpv 6) (fun _ _ => rfl)) (dpe_pow dpe_int dpe_int) (nomark _)) (dpss_cons (dps_appP [3] (app_rule [3] (pv 4) (dpe_mod (dpe_ct cd_int T.f_int bt_int (dpa_cons (dpe_ix (dpv 3) (dpv 6) (fun _ _ => rfl)) dpa_nil)) dpe_int))) (dpss_one (dps_setIP [3] [] (dpe_fdiv (dpe_ix (dpv 3) (dpv 6) (fun _ _ => rfl)) dpe_int) (pv 3) (dpv 6) (fun ho hi => pg_sub ho hi set_list)))) (dpss_cons (dps_setF [2] (i := 8) sc_law_draws.nd rfl (by first | exact Or.inl rfl | exact Or.inr rfl) (dpe_mod (dpe_ct cd_int T.f_int bt_int (dpa_cons (dpe_add (dpe_add (dpe_mul (dpe_ix (dpv 2) (dpv 6) (fun _ _ => rfl)) dpe_int) (dpe_mul (dpv 5) dpe_int)) dpe_int) dpa_nil)) dpe_int)) (dpss_one (dps_appF [] (app_rule [] (pv 4) (dpe_mod (dpe_ct cd_int T.f_int bt_int (dpa_cons (dpe_add (dpe_add (dpe_mul (dpv 8) (dpv 8)) (dpe_mul dpe_int (dpv 8))) (dpv 5)) dpa_nil)) dpe_int))))))))) (dpss_cons (dps_reverse (pv 4)) (dpss_one (dps_retO 4 (pv 4)))))))))
theorem okN_law_draws (T : Txt K mg) : Callee P w K mg base "_law_draws" 1 ["_law_script", "_law_many"] (spN ⟨K, w⟩ 2 mN_law_draws) := T.d_law_draws.okN (k := 0) sc_law_draws fun f xw cdv A outer s H E hr tk => by
  unfold b_law_draws
  exact (dpss_cons (by first | exact (setO_of [] (asg_comp (own := [("_law_cell", 7)]) rfl sc_law_draws.nd rfl rfl (sw_true rfl rfl rfl (by decide +kernel)) (dpi_seq (dpv 0)) (blkOk_by (N := N_law_draws) (sc := defScope s_law_draws) (by decide +kernel)) (fun _ _ _ _ _ => (pg_name (i := 7) sc_law_draws.nd rfl (by first | exact Or.inl rfl | exact Or.inr rfl))) (fun _ _ _ _ _ => dpts_nil) (fun _ _ _ _ _ => (dpe_ct cd_int T.f_int bt_int (dpa_cons (dpv 7) dpa_nil))))) | exact (dps_setO [] (i := 2) sc_law_draws.nd rfl (by first | exact Or.inl rfl | exact Or.inr rfl) (dn_comp (own := [("_law_cell", 7)]) rfl sc_law_draws.nd (dpi_seq (dpv 0)) (blkOk_by (N := N_law_draws) (sc := defScope s_law_draws) (by decide +kernel)) (fun _ _ _ _ _ => (pg_name (i := 7) sc_law_draws.nd rfl (by first | exact Or.inl rfl | exact Or.inr rfl))) (fun _ _ _ _ _ => dpts_nil) (fun _ _ _ _ _ => (dpe_ct cd_int T.f_int bt_int (dpa_cons (dpv 7) dpa_nil)))))) (dpss_cons (dps_if [2] (dpt_cmp (od_eq hr.units) (dpe_len T.f_len (dpv 2)) dpe_int (nomark _)) (dpss_one (dps_appF [] (app_rule [] (pv 2) dpe_int))) dpss_nil) (dpss_cons (dps_setO [2] (i := 3) sc_law_draws.nd rfl (by first | exact Or.inl rfl | exact Or.inr rfl) (dn_list T.f_list (dpv 2))) (dpss_cons (dps_setO [] (i := 4) sc_law_draws.nd rfl (by first | exact Or.inl rfl | exact Or.inr rfl) (dn_lst dpa_nil)) (dpss_cons (dps_for [] pass_never rfl (dpi_range1 (by rfl) T.f_range (dpa_cons (dpv 1) dpa_nil)) (pg_name (i := 5) sc_law_draws.nd rfl (by first | exact Or.inl rfl | exact Or.inr rfl)) (dpss_cons (dps_setF [2] (i := 6) sc_law_draws.nd rfl (by first | exact Or.inl rfl | exact Or.inr rfl) (dpe_mod (dpv 5) (dpe_len T.f_len (dpv 2)))) (dpss_one (dps_if [2] (dpt_cmp od_ge (dpe_ix (dpv 2) (dpv 6) (fun _ _ => rfl)) (dpe_pow dpe_int dpe_int) (nomark _)) (dpss_cons (dps_appP [3] (app_rule [3] (pv 4) (dpe_mod (dpe_ct cd_int T.f_int bt_int (dpa_cons (dpe_ix (dpv 3) (dpv 6) (fun _ _ => rfl)) dpa_nil)) dpe_int))) (dpss_one (dps_setIP [3] [] (dpe_fdiv (dpe_ix (dpv 3) (dpv 6) (fun _ _ => rfl)) dpe_int) (pv 3) (dpv 6) (fun ho hi => pg_sub ho hi set_list)))) (dpss_cons (dps_setF [2] (i := 8) sc_law_draws.nd rfl (by first | exact Or.inl rfl | exact Or.inr rfl) (dpe_mod (dpe_ct cd_int T.f_int bt_int (dpa_cons (dpe_add (dpe_add (dpe_mul (dpe_ix (dpv 2) (dpv 6) (fun _ _ => rfl)) dpe_int) (dpe_mul (dpv 5) dpe_int)) dpe_int) dpa_nil)) dpe_int)) (dpss_one (dps_appF [] (app_rule [] (pv 4) (dpe_mod (dpe_ct cd_int T.f_int bt_int (dpa_cons (dpe_add (dpe_add (dpe_mul (dpv 8) (dpv 8)) (dpe_mul dpe_int (dpv 8))) (dpv 5)) dpa_nil)) dpe_int))))))))) (dpss_cons (dps_reverse (pv 4)) (dpss_one (dps_retO 4 (pv 4)))))))))
theorem ok_law_take (T : Txt K mg) : Callee P w K mg base "_law_take" 1 ["_law_draws_here", "_law_many"] (spD ⟨K, w⟩ 2 m_law_take) := T.d_law_take.okD (k := 0) sc_law_take fun f xw cdv A outer s H E hr tk => by
  unfold b_law_take
  exact (dpss_cons (dps_if [] (dpt_cmp (od_eq hr.units) (dpe_len T.f_len (dpv 0)) dpe_int (nomark _)) (dpss_one (dps_ret [] dpe_int)) dpss_nil) (dpss_one (dps_ret [] (dpe_mod (dpe_ct cd_int T.f_int bt_int (dpa_cons (pop_rule (dpv 0)) dpa_nil)) (dpv 1)))))
theorem ok_law_pick (T : Txt K mg) : Callee P w K mg base "_law_pick" 2 ["_law_draws_here", "_law_row"] (spD ⟨K, w⟩ 2 m_law_pick) := T.d_law_pick.okD (k := 1) sc_law_pick fun f xw cdv A outer s H E hr tk => by
  unfold b_law_pick
  exact (dpss_one (dps_ret [] (dpe_ix (dpv 1) (dpe_cl (ok_law_take T) hr (dpa_cons (dpv 0) (dpa_cons (dpe_len T.f_len (dpv 1)) dpa_nil))) (fun _ _ => rfl))))
theorem ok_law_size (T : Txt K mg) : Callee P w K mg base "_law_size" 2 ["_law_draws_here", "_law_script"] (spD ⟨K, w⟩ 2 m_law_size) := T.d_law_size.okD (k := 1) sc_law_size fun f xw cdv A outer s H E hr tk => by
  unfold b_law_size
  exact (dpss_cons (dps_setF [] (i := 2) sc_law_size.nd rfl (by first | exact Or.inl rfl | exact Or.inr rfl) (dpe_cl (ok_law_take T) hr (dpa_cons (dpv 0) (dpa_cons dpe_int dpa_nil)))) (dpss_cons (dps_if [] (dpt_cmp od_lt (dpv 2) dpe_int (nomark _)) (dpss_one (dps_ret [] (dpe_cl (ok_law_take T) hr (dpa_cons (dpv 0) (dpa_cons dpe_int dpa_nil))))) dpss_nil) (dpss_cons (dps_if [] (dpt_cmp (od_eq hr.units) (dpv 2) dpe_int (nomark _)) (dpss_one (dps_ret [] (dpe_cl (ok_law_take T) hr (dpa_cons (dpv 0) (dpa_cons dpe_int dpa_nil))))) dpss_nil) (dpss_cons (dps_if [] (dpt_w (dpw_or (dpt_cmp (od_eq hr.units) (dpv 2) dpe_int (nomark _)) (dpw_or1 (dpt_cmp (od_eq hr.units) (dpe_len T.f_len (dpv 1)) dpe_int (nomark _))))) (dpss_cons (dps_setF [] (i := 3) sc_law_size.nd rfl (by first | exact Or.inl rfl | exact Or.inr rfl) dpe_int) (dpss_cons (dps_for [] pass_never rfl (dpi_range1 (by rfl) T.f_range (dpa_cons dpe_int dpa_nil)) (pg_name (i := 4) sc_law_size.nd rfl (by first | exact Or.inl rfl | exact Or.inr rfl)) (dpss_one (dps_setF [] (i := 3) sc_law_size.nd rfl (by first | exact Or.inl rfl | exact Or.inr rfl) (dpe_add (dpe_mul (dpv 3) dpe_int) (dpe_cl (ok_law_take T) hr (dpa_cons (dpv 0) (dpa_cons dpe_int dpa_nil))))))) (dpss_one (dps_ret [] (dpv 3))))) dpss_nil) (dpss_one (dps_ret [] (dpe_cb cd_abs T.f_abs bt_abs (dpa_cons (dpe_ct cd_int T.f_int bt_int (dpa_cons (dpe_ix (dpv 1) (dpe_cl (ok_law_take T) hr (dpa_cons (dpv 0) (dpa_cons (dpe_len T.f_len (dpv 1)) dpa_nil))) (fun _ _ => rfl)) dpa_nil)) dpa_nil))))))))
theorem okR_law_same (T : Txt K mg) : ∀ n : Nat, Callee P w K mg base "_law_same" (1 + n) ["_law_actual", "_law_due"] (spD ⟨K, w⟩ 2 (m_law_same n))
  | 0 => (T.d_law_same.ok0 sc_law_same).mono (by decide)
  | n + 1 => by
    have ih_law_same := okR_law_same T n
    · exact T.d_law_same.okD (k := 1 + n) sc_law_same fun f xw cdv A outer s H E hr tk => by
        unfold b_law_same
        exact (dpss_cons (dps_if [] (dpt_val (dpe_isiT (ns := ["tuple", "list"]) T.f_isinstance (dpv 1) (pe_tys (ns := ["tuple", "list"]) (pa_cons (pe_ty T.f_tuple bt_tuple) (pa_cons (pe_ty T.f_list bt_list) pa_nil)) (fun _ _ _ h => h) (by decide)) (by decide +kernel))) (dpss_cons (dps_if [] (dpt_w (dpw_or (dpt_cmp (od_ne hr.units) (dpe_isi T.f_isinstance (dpv 0) (pe_ty T.f_tuple bt_tuple) (by decide +kernel)) (dpe_isi T.f_isinstance (dpv 1) (pe_ty T.f_tuple bt_tuple) (by decide +kernel)) (nomark _)) (dpw_or1 (dpt_cmp (od_ne hr.units) (dpe_isi T.f_isinstance (dpv 0) (pe_ty T.f_list bt_list) (by decide +kernel)) (dpe_isi T.f_isinstance (dpv 1) (pe_ty T.f_list bt_list) (by decide +kernel)) (nomark _))))) (dpss_one (dps_ret [] dpe_bl)) dpss_nil) (dpss_cons (dps_if [] (dpt_cmp (od_ne hr.units) (dpe_len T.f_len (dpv 0)) (dpe_len T.f_len (dpv 1)) (nomark _)) (dpss_one (dps_ret [] dpe_bl)) dpss_nil) (dpss_one (dps_ret [] (dpe_cmp (od_nin hr.units) dpe_bl (PN.fz (dn_comp (own := [("_law_k", 2)]) rfl sc_law_same.nd (dpi_range1 (by rfl) T.f_range (dpa_cons (dpe_len T.f_len (dpv 1)) dpa_nil)) (blkOk_by (N := N_law_same) (sc := defScope s_law_same) (by decide +kernel)) (fun _ _ _ _ _ => (pg_name (i := 2) sc_law_same.nd rfl (by first | exact Or.inl rfl | exact Or.inr rfl))) (fun _ _ _ _ _ => dpts_nil) (fun _ _ _ _ _ => (dpe_cl ih_law_same hr (dpa_cons (dpe_ix (dpv 0) (dpv 2) (fun _ _ => rfl)) (dpa_cons (dpe_ix (dpv 1) (dpv 2) (fun _ _ => rfl)) dpa_nil)) (Nat.le_refl _))))) (by rfl)))))) dpss_nil) (dpss_cons (dps_if [] (dpt_w (dpw_or (dpt_cmp (od_ne hr.units) (dpe_isi T.f_isinstance (dpv 0) (pe_ty T.f_bool bt_bool) (by decide +kernel)) (dpe_isi T.f_isinstance (dpv 1) (pe_ty T.f_bool bt_bool) (by decide +kernel)) (nomark _)) (dpw_or1 (dpt_cmp (od_ne hr.units) (dpe_isi T.f_isinstance (dpv 0) (pe_ty T.f_int bt_int) (by decide +kernel)) (dpe_isi T.f_isinstance (dpv 1) (pe_ty T.f_int bt_int) (by decide +kernel)) (nomark _))))) (dpss_one (dps_ret [] dpe_bl)) dpss_nil) (dpss_cons (dps_if [] (dpt_w (dpw_or (dpt_cmp (od_ne hr.units) (dpe_isi T.f_isinstance (dpv 0) (pe_ty T.f_str bt_str) (by decide +kernel)) (dpe_isi T.f_isinstance (dpv 1) (pe_ty T.f_str bt_str) (by decide +kernel)) (nomark _)) (dpw_or1 (dpt_cmp (od_ne hr.units) (dpe_cmp od_is (dpv 0) dpe_non (nomark _)) (dpe_cmp od_is (dpv 1) dpe_non (nomark _)) (nomark _))))) (dpss_one (dps_ret [] dpe_bl)) dpss_nil) (dpss_one (dps_ret [] (dpe_cmp (od_eq hr.units) (dpv 0) (dpv 1) (nomark _)))))))
theorem ok_law_same (T : Txt K mg) (n : Nat) : Callee P w K mg base "_law_same" (1 + n) ["_law_actual", "_law_due"] (spD ⟨K, w⟩ 2 (m_law_same n)) := (okR_law_same T n)
theorem ok_law_is_word (T : Txt K mg) : Callee P w K mg base "_law_is_word" 1 ["_law_text"] (spD ⟨K, w⟩ 1 m_law_is_word) := T.d_law_is_word.okD (k := 0) sc_law_is_word fun f xw cdv A outer s H E hr tk => by
  unfold b_law_is_word
  exact (dpss_one (dps_ret [] (dpe_and (dpe_cmp (od_ne hr.units) (dpv 0) dpe_str (nomark _)) (dpe_one (dpe_cmp (od_eq hr.units) (dpe_len T.f_len (PN.fz (dn_comp (own := [("_law_char", 1)]) rfl sc_law_is_word.nd (dpi_seq (dpv 0)) (blkOk_by (N := N_law_is_word) (sc := defScope s_law_is_word) (by decide +kernel)) (fun _ _ _ _ _ => (pg_name (i := 1) sc_law_is_word.nd rfl (by first | exact Or.inl rfl | exact Or.inr rfl))) (fun _ _ _ _ _ => (dpts_one (dpt_cmp (od_nin hr.units) (dpv 1) dpe_str (by rfl)))) (fun _ _ _ _ _ => (dpv 1))))) dpe_int (nomark _))))))
theorem ok_law_words (T : Txt K mg) : Callee P w K mg base "_law_words" 3 ["_law_draws_here", "_law_many"] (spD ⟨K, w⟩ 2 m_law_words) := T.d_law_words.okD (k := 2) sc_law_words fun f xw cdv A outer s H E hr tk => by
  unfold b_law_words
  exact (dpss_cons (dps_setO [] (i := 2) sc_law_words.nd rfl (by first | exact Or.inl rfl | exact Or.inr rfl) (dn_lst dpa_nil)) (dpss_cons (dps_for [] pass_never rfl (dpi_range1 (by rfl) T.f_range (dpa_cons (dpv 1) dpa_nil)) (pg_name (i := 3) sc_law_words.nd rfl (by first | exact Or.inl rfl | exact Or.inr rfl)) (dpss_cons (dps_setF [] (i := 4) sc_law_words.nd rfl (by first | exact Or.inl rfl | exact Or.inr rfl) (dpe_add dpe_int (dpe_cl (ok_law_take T) hr (dpa_cons (dpv 0) (dpa_cons dpe_int dpa_nil))))) (dpss_cons (dps_if [] (dpt_cmp (od_eq hr.units) (dpe_cl (ok_law_take T) hr (dpa_cons (dpv 0) (dpa_cons dpe_int dpa_nil))) dpe_int (nomark _)) (dpss_one (dps_setF [] (i := 4) sc_law_words.nd rfl (by first | exact Or.inl rfl | exact Or.inr rfl) (dpe_add (dpe_add (dpv 4) dpe_int) (dpe_cl (ok_law_take T) hr (dpa_cons (dpv 0) (dpa_cons dpe_int dpa_nil)))))) dpss_nil) (dpss_cons (dps_setF [] (i := 5) sc_law_words.nd rfl (by first | exact Or.inl rfl | exact Or.inr rfl) (dpe_join dpe_str (PN.fz (dn_comp (own := [("_law_j", 6)]) rfl sc_law_words.nd (dpi_range1 (by rfl) T.f_range (dpa_cons (dpv 4) dpa_nil)) (blkOk_by (N := N_law_words) (sc := defScope s_law_words) (by decide +kernel)) (fun _ _ _ _ _ => (pg_name (i := 6) sc_law_words.nd rfl (by first | exact Or.inl rfl | exact Or.inr rfl))) (fun _ _ _ _ _ => dpts_nil) (fun _ _ _ _ _ => (dpe_ix dpe_str (dpe_cl (ok_law_take T) hr (dpa_cons (dpv 0) (dpa_cons dpe_int dpa_nil))) (fun _ _ => rfl))))))) (dpss_cons (dps_if [2] (dpt_w (dpw_and (dpt_cmp od_gt (dpe_len T.f_len (dpv 2)) dpe_int (nomark _)) (dpw_and1 (dpt_cmp (od_eq hr.units) (dpe_cl (ok_law_take T) hr (dpa_cons (dpv 0) (dpa_cons dpe_int dpa_nil))) dpe_int (nomark _))))) (dpss_one (dps_setP [2] (i := 5) sc_law_words.nd rfl (by first | exact Or.inl rfl | exact Or.inr rfl) (dpe_add (dpe_cl (ok_law_pick T) hr (dpa_cons (dpv 0) (dpa_cons (dpv 2) dpa_nil))) (dpe_ix dpe_str (dpe_cl (ok_law_take T) hr (dpa_cons (dpv 0) (dpa_cons dpe_int dpa_nil))) (fun _ _ => rfl))))) dpss_nil) (dpss_cons (dps_if [2] (dpt_cmp (od_in hr.units) (dpv 5) (dpv 2) (by rfl)) (dpss_one (dps_setP [2] (i := 5) sc_law_words.nd rfl (by first | exact Or.inl rfl | exact Or.inr rfl) (dpe_mulX dpe_str (dpe_add dpe_int (dpe_cb (cd_max rfl) T.f_max bt_max (dpa_cons (PN.fz (dn_comp (own := [("_law_other", 7)]) rfl sc_law_words.nd (dpi_seq (dpv 2)) (blkOk_by (N := N_law_words) (sc := defScope s_law_words) (by decide +kernel)) (fun _ _ _ _ _ => (pg_name (i := 7) sc_law_words.nd rfl (by first | exact Or.inl rfl | exact Or.inr rfl))) (fun _ _ _ _ _ => dpts_nil) (fun _ _ _ _ _ => (dpe_len T.f_len (dpv 7))))) dpa_nil)))))) dpss_nil) (dpss_one (dps_appF [] (app_rule [] (pv 2) (dpv 5)))))))))) (dpss_one (dps_retO 2 (pv 2)))))
theorem ok_law_strange (T : Txt K mg) : Callee P w K mg base "_law_strange" 3 ["_law_draws_here", "_law_word"] (spD ⟨K, w⟩ 2 m_law_strange) := T.d_law_strange.okD (k := 2) sc_law_strange fun f xw cdv A outer s H E hr tk => by
  unfold b_law_strange
  exact (dpss_cons (dps_setF [] (i := 2) sc_law_strange.nd rfl (by first | exact Or.inl rfl | exact Or.inr rfl) (dpe_cl (ok_law_pick T) hr (dpa_cons (dpv 0) (dpa_cons (PN.fz (dn_lst (dpa_cons dpe_str (dpa_cons dpe_str (dpa_cons dpe_str (dpa_cons dpe_str (dpa_cons dpe_str (dpa_cons dpe_str (dpa_cons dpe_str (dpa_cons dpe_str (dpa_cons dpe_str (dpa_cons dpe_str (dpa_cons dpe_str (dpa_cons dpe_str (dpa_cons dpe_str (dpa_cons dpe_str (dpa_cons dpe_str dpa_nil))))))))))))))))) dpa_nil)))) (dpss_cons (dps_setF [] (i := 3) sc_law_strange.nd rfl (by first | exact Or.inl rfl | exact Or.inr rfl) (dpe_cl (ok_law_take T) hr (dpa_cons (dpv 0) (dpa_cons (dpe_add (dpe_len T.f_len (dpv 1)) dpe_int) dpa_nil)))) (dpss_one (dps_ret [] (dpe_ix (PN.fz (dn_lst (dpa_cons dpe_str (dpa_cons (dpe_add (dpe_add (dpe_slice (dpv 1) dpo_none (dpo_some (dpv 3))) (dpv 2)) (dpe_slice (dpv 1) (dpo_some (dpv 3)) dpo_none)) dpa_nil)))) (dpe_ct cd_int T.f_int bt_int (dpa_cons (dpe_cmp od_gt (dpe_cl (ok_law_take T) hr (dpa_cons (dpv 0) (dpa_cons dpe_int dpa_nil))) dpe_int (nomark _)) dpa_nil)) (fun _ _ => rfl))))))
theorem ok_law_any_schema (T : Txt K mg) : Callee P w K mg base "_law_any_schema" 2 ["_law_draws_here", "_law_words_here"] (spD ⟨K, w⟩ 2 m_law_any_schema) := T.d_law_any_schema.okD (k := 1) sc_law_any_schema fun f xw cdv A outer s H E hr tk => by
  unfold b_law_any_schema
  exact (dpss_cons (dps_setF [] (i := 2) sc_law_any_schema.nd rfl (by first | exact Or.inl rfl | exact Or.inr rfl) (dpe_add dpe_int (dpe_cl (ok_law_take T) hr (dpa_cons (dpv 0) (dpa_cons dpe_int dpa_nil))))) (dpss_cons (dps_if [] (dpt_cmp (od_eq hr.units) (dpe_cl (ok_law_take T) hr (dpa_cons (dpv 0) (dpa_cons dpe_int dpa_nil))) dpe_int (nomark _)) (dpss_one (dps_setF [] (i := 2) sc_law_any_schema.nd rfl (by first | exact Or.inl rfl | exact Or.inr rfl) (dpe_cl (ok_law_take T) hr (dpa_cons (dpv 0) (dpa_cons dpe_int dpa_nil))))) dpss_nil) (dpss_cons (dps_setO [] (i := 3) sc_law_any_schema.nd rfl (by first | exact Or.inl rfl | exact Or.inr rfl) (dn_lst dpa_nil)) (dpss_cons (dps_for [] pass_never rfl (dpi_seq (PN.fz (dn_sort hr.units T.f_sorted (dpe_slice (dpv 1) dpo_none (dpo_some (dpv 2)))))) (pg_name (i := 4) sc_law_any_schema.nd rfl (by first | exact Or.inl rfl | exact Or.inr rfl)) (dpss_cons (dps_setF [] (i := 5) sc_law_any_schema.nd rfl (by first | exact Or.inl rfl | exact Or.inr rfl) (dpe_ix (PN.fz (dn_lst (dpa_cons dpe_int (dpa_cons dpe_int (dpa_cons dpe_int (dpa_cons dpe_int (dpa_cons dpe_int (dpa_cons dpe_int dpa_nil)))))))) (dpe_cl (ok_law_take T) hr (dpa_cons (dpv 0) (dpa_cons dpe_int dpa_nil))) (fun _ _ => rfl))) (dpss_cons (dps_if [] (dpt_cmp (od_eq hr.units) (dpe_cl (ok_law_take T) hr (dpa_cons (dpv 0) (dpa_cons dpe_int dpa_nil))) dpe_int (nomark _)) (dpss_one (dps_setF [] (i := 5) sc_law_any_schema.nd rfl (by first | exact Or.inl rfl | exact Or.inr rfl) (dpe_cl (ok_law_take T) hr (dpa_cons (dpv 0) (dpa_cons dpe_int dpa_nil))))) dpss_nil) (dpss_one (dps_appF [] (app_rule [] (pv 3) (dpe_tup (dpa_cons (dpv 4) (dpa_cons (dpv 5) dpa_nil))))))))) (dpss_one (dps_ret [3] (dpe_ct cd_tuple T.f_tuple bt_tuple (dpa_cons (dpv 3) dpa_nil))))))))
theorem ok_law_is_schema (T : Txt K mg) : Callee P w K mg base "_law_is_schema" 2 ["_law_schema"] (spD ⟨K, w⟩ 1 m_law_is_schema) := T.d_law_is_schema.okD (k := 1) sc_law_is_schema fun f xw cdv A outer s H E hr tk => by
  unfold b_law_is_schema
  exact (dpss_cons (by first | exact (setF_of [] (asg_fz (asg_comp (own := [("_law_table", 2)]) rfl sc_law_is_schema.nd rfl rfl (sw_true rfl rfl rfl (by decide +kernel)) (dpi_seq (dpv 0)) (blkOk_by (N := N_law_is_schema) (sc := defScope s_law_is_schema) (by decide +kernel)) (fun _ _ _ _ _ => (pg_name (i := 2) sc_law_is_schema.nd rfl (by first | exact Or.inl rfl | exact Or.inr rfl))) (fun _ _ _ _ _ => dpts_nil) (fun _ _ _ _ _ => (dpe_ix (dpv 2) dpe_int (fun _ _ => rfl)))))) | exact (dps_setF [] (i := 1) sc_law_is_schema.nd rfl (by first | exact Or.inl rfl | exact Or.inr rfl) (PN.fz (dn_comp (own := [("_law_table", 2)]) rfl sc_law_is_schema.nd (dpi_seq (dpv 0)) (blkOk_by (N := N_law_is_schema) (sc := defScope s_law_is_schema) (by decide +kernel)) (fun _ _ _ _ _ => (pg_name (i := 2) sc_law_is_schema.nd rfl (by first | exact Or.inl rfl | exact Or.inr rfl))) (fun _ _ _ _ _ => dpts_nil) (fun _ _ _ _ _ => (dpe_ix (dpv 2) dpe_int (fun _ _ => rfl))))))) (dpss_cons (dps_if [] (dpt_w (dpw_or (dpt_cmp od_gt (dpe_len T.f_len (dpv 0)) dpe_int (nomark _)) (dpw_or1 (dpt_cmp (od_ne hr.units) (dpv 1) (PN.fz (dn_sortSet rfl hr.units T.f_sorted T.f_set (dpv 1))) (nomark _))))) (dpss_one (dps_ret [] dpe_bl)) dpss_nil) (dpss_cons (dps_for [] pass_never rfl (dpi_seq (dpv 0)) (pg_name (i := 2) sc_law_is_schema.nd rfl (by first | exact Or.inl rfl | exact Or.inr rfl)) (dpss_one (dps_if [] (dpt_w (dpw_or (dpt_not (dpt_val (dpe_cl (ok_law_is_word T) hr (dpa_cons (dpe_ix (dpv 2) dpe_int (fun _ _ => rfl)) dpa_nil)))) (dpw_or (dpt_cmp od_lt (dpe_ix (dpv 2) dpe_int (fun _ _ => rfl)) dpe_int (nomark _)) (dpw_or1 (dpt_cmp od_gt (dpe_ix (dpv 2) dpe_int (fun _ _ => rfl)) dpe_int (nomark _)))))) (dpss_one (dps_ret [] dpe_bl)) dpss_nil))) (dpss_one (dps_ret [] dpe_bl)))))
theorem ok_law_refused (T : Txt K mg) : Callee P w K mg base "_law_refused" 3 ["_law_schema"] (spD ⟨K, w⟩ 1 m_law_refused) := T.d_law_refused.okD (k := 2) sc_law_refused fun f xw cdv A outer s H E hr tk => by
  unfold b_law_refused
  exact (dpss_cons (dps_tryAs (i := 1) T.k_ChanceError rfl rfl sc_law_refused.nd rfl rfl rfl (by decide) tk (fun pn1 xe1 tk1 po1 => (dpss_one (dps_setX [] (i := 2) sc_law_refused.nd rfl (by first | exact Or.inl rfl | exact Or.inr rfl) (dxe_cl (okX_check_schema T) tk1 hr (dpa_cons (dpv 0) dpa_nil))))) (fun a1 oe1 cls1 d1 pn1 c hz hf => (dss_if (tE_val (dE_isT (xs := ["BadText", "DoubleFact", "NoChance", "NoFact", "NoKept", "NoPlan", "NoQuestion", "NoRow", "NoShare"]) hz hf T.i_t9_BadText959 T.f_isinstance (pv 1) (pe_ocs (xs := ["BadText", "DoubleFact", "NoChance", "NoFact", "NoKept", "NoPlan", "NoQuestion", "NoRow", "NoShare"]) (pa_cons (pe_oc T.g_BadText) (pa_cons (pe_oc T.g_DoubleFact) (pa_cons (pe_oc T.g_NoChance) (pa_cons (pe_oc T.g_NoFact) (pa_cons (pe_oc T.g_NoKept) (pa_cons (pe_oc T.g_NoPlan) (pa_cons (pe_oc T.g_NoQuestion) (pa_cons (pe_oc T.g_NoRow) (pa_cons (pe_oc T.g_NoShare) pa_nil))))))))) (fun _ _ _ h => h) (by decide)))) (dpss_one (dps_ret [] dpe_non)) (dss_if (tE_not (tE_val (dE_is1 hz hf (.ty "ValueError") T.i_ValueError T.f_isinstance (pv 1) (pe_ty T.f_ValueError (by decide +kernel))))) (dpss_one (dps_ret [] dpe_non)) (dss_if (tE_not (tE_val (dE_is1 hz hf (.own _) T.i_NoSchema T.f_isinstance (pv 1) (pe_oc T.g_NoSchema)))) (dpss_one (dps_ret [] dpe_non)) (dss_last (dpss_one (dps_ret [] dpe_bl)))))))) (dpss_cons (dps_if [] (dpt_cmp od_isn (dpv 2) dpe_non (nomark _)) (dpss_one (dps_ret [] dpe_non)) dpss_nil) (dpss_one (dps_ret [] dpe_bl))))
theorem ok_law_changed (T : Txt K mg) : Callee P w K mg base "_law_changed" 4 ["_law_draws_here", "_law_script", "_law_schema", "_law_words_here"] (spD ⟨K, w⟩ 4 m_law_changed) := T.d_law_changed.okD (k := 3) sc_law_changed fun f xw cdv A outer s H E hr tk => by
  unfold b_law_changed
  exact (dpss_cons (dps_setO [] (i := 4) sc_law_changed.nd rfl (by first | exact Or.inl rfl | exact Or.inr rfl) (dn_list T.f_list (dpv 2))) (dpss_cons (dps_setF [] (i := 5) sc_law_changed.nd rfl (by first | exact Or.inl rfl | exact Or.inr rfl) (dpe_cl (ok_law_take T) hr (dpa_cons (dpv 0) (dpa_cons dpe_int dpa_nil)))) (dpss_cons (dps_setP [4] (i := 6) sc_law_changed.nd rfl (by first | exact Or.inl rfl | exact Or.inr rfl) (dpe_cl (ok_law_take T) hr (dpa_cons (dpv 0) (dpa_cons (dpe_len T.f_len (dpv 4)) dpa_nil)))) (dpss_cons (dps_setP [4] (i := 7) sc_law_changed.nd rfl (by first | exact Or.inl rfl | exact Or.inr rfl) (dpe_ix (dpe_ix (dpv 4) (dpv 6) (fun _ _ => rfl)) dpe_int (fun _ _ => rfl))) (dpss_cons (dps_setP [4] (i := 8) sc_law_changed.nd rfl (by first | exact Or.inl rfl | exact Or.inr rfl) (dpe_ix (dpe_ix (dpv 4) (dpv 6) (fun _ _ => rfl)) dpe_int (fun _ _ => rfl))) (dpss_cons (dps_if [] (dpt_cmp (od_eq hr.units) (dpv 5) dpe_int (nomark _)) (dpss_one (dps_setIP [] [] (dpe_tup (dpa_cons (dpe_cl (ok_law_strange T) hr (dpa_cons (dpv 0) (dpa_cons (dpv 7) dpa_nil))) (dpa_cons (dpv 8) dpa_nil))) (pv 4) (dpv 6) (fun ho hi => pg_sub ho hi set_list))) dpss_nil) (dpss_cons (dps_if [] (dpt_cmp (od_eq hr.units) (dpv 5) dpe_int (nomark _)) (dpss_cons (dps_setF [] (i := 9) sc_law_changed.nd rfl (by first | exact Or.inl rfl | exact Or.inr rfl) (PN.fz (dn_lst (dpa_cons (dpe_neg dpe_int) (dpa_cons dpe_int (dpa_cons dpe_int (dpa_cons (dpe_sub dpe_int (dpe_cl (ok_law_size T) hr (dpa_cons (dpv 0) (dpa_cons (dpv 1) dpa_nil)))) (dpa_cons (dpe_cl (ok_law_size T) hr (dpa_cons (dpv 0) (dpa_cons (dpv 1) dpa_nil))) dpa_nil)))))))) (dpss_one (dps_setIP [] [] (dpe_tup (dpa_cons (dpv 7) (dpa_cons (dpe_cl (ok_law_pick T) hr (dpa_cons (dpv 0) (dpa_cons (dpv 9) dpa_nil))) dpa_nil))) (pv 4) (dpv 6) (fun ho hi => pg_sub ho hi set_list)))) dpss_nil) (dpss_cons (dps_if [] (dpt_cmp (od_eq hr.units) (dpv 5) dpe_int (nomark _)) (dpss_cons (dps_setP [4] (i := 10) sc_law_changed.nd rfl (by first | exact Or.inl rfl | exact Or.inr rfl) (dpe_cl (ok_law_take T) hr (dpa_cons (dpv 0) (dpa_cons (dpe_len T.f_len (dpv 4)) dpa_nil)))) (dpss_cons (dps_setIP [4] [] (dpe_ix (dpv 4) (dpv 10) (fun _ _ => rfl)) (pv 4) (dpv 6) (fun ho hi => pg_sub ho hi set_list)) (dpss_one (dps_setIP [] [] (dpe_tup (dpa_cons (dpv 7) (dpa_cons (dpv 8) dpa_nil))) (pv 4) (dpv 10) (fun ho hi => pg_sub ho hi set_list))))) dpss_nil) (dpss_cons (dps_if [] (dpt_cmp (od_eq hr.units) (dpv 5) dpe_int (nomark _)) (dpss_one (dps_mutAP [4] mut_insert (ins_rule (pv 4) (dpa_cons (dpe_cl (ok_law_take T) hr (dpa_cons (dpv 0) (dpa_cons (dpe_add (dpe_len T.f_len (dpv 4)) dpe_int) dpa_nil))) (dpa_cons (dpe_tup (dpa_cons (dpv 7) (dpa_cons (dpe_cl (ok_law_take T) hr (dpa_cons (dpv 0) (dpa_cons dpe_int dpa_nil))) dpa_nil))) dpa_nil))))) dpss_nil) (dpss_cons (dps_if [] (dpt_cmp (od_eq hr.units) (dpv 5) dpe_int (nomark _)) (dpss_one (dps_setIP [] [] (dpe_tup (dpa_cons (dpe_add (dpv 7) dpe_str) (dpa_cons (dpv 8) dpa_nil))) (pv 4) (dpv 6) (fun ho hi => pg_sub ho hi set_list))) dpss_nil) (dpss_cons (dps_if [] (dpt_cmp od_gt (dpv 5) dpe_int (nomark _)) (dpss_cons (dps_setF [4] (i := 11) sc_law_changed.nd rfl (by first | exact Or.inl rfl | exact Or.inr rfl) (PN.fz (dn_sort hr.units T.f_sorted (dpe_add (PN.fz (dn_comp (own := [("_law_table", 13)]) rfl sc_law_changed.nd (dpi_seq (dpv 4)) (blkOk_by (N := N_law_changed) (sc := defScope s_law_changed) (by decide +kernel)) (fun _ _ _ _ _ => (pg_name (i := 13) sc_law_changed.nd rfl (by first | exact Or.inl rfl | exact Or.inr rfl))) (fun _ _ _ _ _ => dpts_nil) (fun _ _ _ _ _ => (dpe_ix (dpv 13) dpe_int (fun _ _ => rfl))))) (PN.fz (dn_comp (own := [("_law_word", 12)]) rfl sc_law_changed.nd (dpi_seq (dpv 3)) (blkOk_by (N := N_law_changed) (sc := defScope s_law_changed) (by decide +kernel)) (fun _ _ _ _ _ => (pg_name (i := 12) sc_law_changed.nd rfl (by first | exact Or.inl rfl | exact Or.inr rfl))) (fun _ _ _ _ _ => (dpts_one (dpt_cmp (od_nin hr.units) (dpe_add dpe_str (dpv 12)) (dpv 3) (by rfl)))) (fun _ _ _ _ _ => (dpe_add dpe_str (dpv 12))))))))) (dpss_one (by first | exact (setO_of [] (asg_comp (own := [("_law_word", 12)]) rfl sc_law_changed.nd rfl rfl (sw_true rfl rfl rfl (by decide +kernel)) (dpi_seq (dpe_slice (dpv 11) dpo_none (dpo_some (dpe_add dpe_int (dpe_cl (ok_law_take T) hr (dpa_cons (dpv 0) (dpa_cons dpe_int dpa_nil))))))) (blkOk_by (N := N_law_changed) (sc := defScope s_law_changed) (by decide +kernel)) (fun _ _ _ _ _ => (pg_name (i := 12) sc_law_changed.nd rfl (by first | exact Or.inl rfl | exact Or.inr rfl))) (fun _ _ _ _ _ => dpts_nil) (fun _ _ _ _ _ => (dpe_tup (dpa_cons (dpv 12) (dpa_cons dpe_int dpa_nil)))))) | exact (dps_setO [] (i := 4) sc_law_changed.nd rfl (by first | exact Or.inl rfl | exact Or.inr rfl) (dn_comp (own := [("_law_word", 12)]) rfl sc_law_changed.nd (dpi_seq (dpe_slice (dpv 11) dpo_none (dpo_some (dpe_add dpe_int (dpe_cl (ok_law_take T) hr (dpa_cons (dpv 0) (dpa_cons dpe_int dpa_nil))))))) (blkOk_by (N := N_law_changed) (sc := defScope s_law_changed) (by decide +kernel)) (fun _ _ _ _ _ => (pg_name (i := 12) sc_law_changed.nd rfl (by first | exact Or.inl rfl | exact Or.inr rfl))) (fun _ _ _ _ _ => dpts_nil) (fun _ _ _ _ _ => (dpe_tup (dpa_cons (dpv 12) (dpa_cons dpe_int dpa_nil))))))))) dpss_nil) (dpss_one (dps_ret [4] (dpe_ct cd_tuple T.f_tuple bt_tuple (dpa_cons (dpv 4) dpa_nil)))))))))))))))
theorem ok_law (T : Txt K mg) : Callee P w K mg base "law" 14 ["_law_script"] (spD ⟨K, w⟩ 1 m_law) := T.d_law.okD (k := 13) sc_law fun f xw cdv A outer s H E hr tk => by
  unfold b_law
  exact (dpss_cons (dps_share [] (i := 1) sc_law.nd rfl (by first | exact Or.inl rfl | exact Or.inr rfl) (dn_cl (okN_law_draws T) hr (dpa_cons (dpv 0) (dpa_cons dpe_int dpa_nil)))) (dpss_cons (dps_setF [] (i := 2) sc_law.nd rfl (by first | exact Or.inl rfl | exact Or.inr rfl) (dpe_cl (ok_law_words T) hr (dpa_cons (dpv 1) (dpa_cons dpe_int dpa_nil)))) (dpss_cons (dps_setF [] (i := 3) sc_law.nd rfl (by first | exact Or.inl rfl | exact Or.inr rfl) (dpe_cl (ok_law_any_schema T) hr (dpa_cons (dpv 1) (dpa_cons (dpe_slice (dpv 2) dpo_none (dpo_some dpe_int)) dpa_nil)))) (dpss_cons (dps_if [] (dpt_not (dpt_val (dpe_cl (ok_law_same T 12) hr (dpa_cons (dpe_cl (ok_law_refused T) hr (dpa_cons (dpv 3) dpa_nil)) (dpa_cons dpe_bl dpa_nil))))) (dpss_one (dps_ret [] dpe_bl)) dpss_nil) (dpss_cons (dps_if [] (dpt_cmp (od_eq hr.units) (dpe_len T.f_len (dpv 3)) dpe_int (nomark _)) (dpss_one (dps_ret [] dpe_bl)) dpss_nil) (dpss_cons (dps_setF [] (i := 4) sc_law.nd rfl (by first | exact Or.inl rfl | exact Or.inr rfl) (dpe_cl (ok_law_changed T) hr (dpa_cons (dpv 1) (dpa_cons (dpv 0) (dpa_cons (dpv 3) (dpa_cons (dpv 2) dpa_nil)))))) (dpss_cons (dps_if [] (dpt_not (dpt_val (dpe_cl (ok_law_same T 12) hr (dpa_cons (dpe_cl (ok_law_refused T) hr (dpa_cons (dpv 4) dpa_nil)) (dpa_cons (dpe_not (dpe_cl (ok_law_is_schema T) hr (dpa_cons (dpv 4) dpa_nil))) dpa_nil))))) (dpss_one (dps_ret [] dpe_bl)) dpss_nil) (dpss_one (dps_ret [] (dpe_cl (ok_law_same T 12) hr (dpa_cons (dpe_cl (ok_law_refused T) hr (dpa_cons (dpv 3) dpa_nil)) (dpa_cons dpe_bl dpa_nil))))))))))))
end
/-! ### the head -/
def fn : List He.DefD := [defD "is_word" s_is_word, defD "check_schema" s_check_schema, defD "_law_draws" s_law_draws, defD "_law_take" s_law_take, defD "_law_pick" s_law_pick, defD "_law_size" s_law_size, defD "_law_same" s_law_same, defD "_law_is_word" s_law_is_word, defD "_law_words" s_law_words, defD "_law_strange" s_law_strange, defD "_law_any_schema" s_law_any_schema, defD "_law_is_schema" s_law_is_schema, defD "_law_refused" s_law_refused, defD "_law_changed" s_law_changed, defD "law" s_law]
def fa : List He.Fa := [.glo "is_word", .glo "check_schema", .glo "_law_draws", .glo "_law_take", .glo "_law_pick", .glo "_law_size", .glo "_law_same", .glo "_law_is_word", .glo "_law_words", .glo "_law_strange", .glo "_law_any_schema", .glo "_law_is_schema", .glo "_law_refused", .glo "_law_changed", .glo "law", .free "ValueError", .free "abs", .free "all", .free "bool", .free "int", .free "isinstance", .free "len", .free "list", .free "max", .free "range", .free "set", .free "sorted", .free "str", .free "tuple", .str "LETTERS" "abcdefghijklmnopqrstuvwxyz", .int "MOST_COLUMNS" 8, .int "MOST_TABLES" 20]
def ex (K : PySem.W.Frag) : Bool := (true) && (exfB K "NoSchema" && (catchB K "ChanceError" [("NoSchema", true)] && (isfB K (oc K ["BadText", "DoubleFact", "NoChance", "NoFact", "NoKept", "NoPlan", "NoQuestion", "NoRow", "NoShare"]) [("NoSchema", false)] && ((He.Fa.glo "NoShare").ok K && ((He.Fa.glo "NoRow").ok K && ((He.Fa.glo "NoQuestion").ok K && ((He.Fa.glo "NoPlan").ok K && ((He.Fa.glo "NoKept").ok K && ((He.Fa.glo "NoFact").ok K && ((He.Fa.glo "NoChance").ok K && ((He.Fa.glo "DoubleFact").ok K && ((He.Fa.glo "BadText").ok K && (isfB K [.type "ValueError"] [("NoSchema", true)] && (isfB K (oc K ["NoSchema"]) [("NoSchema", true)] && ((He.Fa.glo "NoSchema").ok K)))))))))))))))
abbrev R : PySem.W.OpenRow := PySem.W.OpenLaw.row PySem.Challenge.rw_rightchance_k11_schemas_and_others
abbrev hk : PySem.W.Hook := hookE 4 fa fn ex
def ob (s : PySem.W.SharedT) : AlE := obsE 4 fa fn ex (HandSHeadRun.getT s)
theorem ob_eq (s : PySem.W.SharedT) : ob s = hk.obs s.abs := obsE_eq (HandSHeadRun.getT_eq s)
def loose : List Str := (["ChanceError", "NoSchema", "NoRow", "NoShare", "DoubleFact", "NoFact", "NoPlan", "NoChance", "NoQuestion", "BadText", "NoKept", "LETTERS", "is_word", "MOST_TABLES", "MOST_COLUMNS", "check_schema", "_law_draws", "_law_take", "_law_pick", "_law_size", "_law_same", "_law_is_word", "_law_words", "_law_strange", "_law_any_schema", "_law_is_schema", "_law_refused", "_law_changed"] : List Str)
set_option maxHeartbeats 0 in
theorem run (w : World) : HandSHeadRun.RunEq R (PySem.W.view R.prog [32]) hk ob 20000 loose w := by
  intro os
  kernel_rfl
theorem txt {K : PySem.W.Frag} {h : Heap} {mg : Str → Option Value} (X : K.In h) (G : h.Ns mainGlobals mg) (c : He.SaysD fa fn K) (ce : ex K = true) : Txt K mg := by
  obtain ⟨fd0, F0⟩ := c.def_ 0 (d := defD "is_word" s_is_word) rfl
  have b0 : Binds K fd0 ["text"] [] := F0.bindsN fun _ _ _ _ _ _ us hl => match us, hl with | [_], _ => rfl
  obtain ⟨fd1, F1⟩ := c.def_ 1 (d := defD "check_schema" s_check_schema) rfl
  have b1 : Binds K fd1 ["schema"] [] := F1.bindsN fun _ _ _ _ _ _ us hl => match us, hl with | [_], _ => rfl
  obtain ⟨fd2, F2⟩ := c.def_ 2 (d := defD "_law_draws" s_law_draws) rfl
  have b2 : Binds K fd2 ["_law_script", "_law_many"] [] := F2.bindsN fun _ _ _ _ _ _ us hl => match us, hl with | [_, _], _ => rfl
  obtain ⟨fd3, F3⟩ := c.def_ 3 (d := defD "_law_take" s_law_take) rfl
  have b3 : Binds K fd3 ["_law_draws_here", "_law_many"] [] := F3.bindsN fun _ _ _ _ _ _ us hl => match us, hl with | [_, _], _ => rfl
  obtain ⟨fd4, F4⟩ := c.def_ 4 (d := defD "_law_pick" s_law_pick) rfl
  have b4 : Binds K fd4 ["_law_draws_here", "_law_row"] [] := F4.bindsN fun _ _ _ _ _ _ us hl => match us, hl with | [_, _], _ => rfl
  obtain ⟨fd5, F5⟩ := c.def_ 5 (d := defD "_law_size" s_law_size) rfl
  have b5 : Binds K fd5 ["_law_draws_here", "_law_script"] [] := F5.bindsN fun _ _ _ _ _ _ us hl => match us, hl with | [_, _], _ => rfl
  obtain ⟨fd6, F6⟩ := c.def_ 6 (d := defD "_law_same" s_law_same) rfl
  have b6 : Binds K fd6 ["_law_actual", "_law_due"] [] := F6.bindsN fun _ _ _ _ _ _ us hl => match us, hl with | [_, _], _ => rfl
  obtain ⟨fd7, F7⟩ := c.def_ 7 (d := defD "_law_is_word" s_law_is_word) rfl
  have b7 : Binds K fd7 ["_law_text"] [] := F7.bindsN fun _ _ _ _ _ _ us hl => match us, hl with | [_], _ => rfl
  obtain ⟨fd8, F8⟩ := c.def_ 8 (d := defD "_law_words" s_law_words) rfl
  have b8 : Binds K fd8 ["_law_draws_here", "_law_many"] [] := F8.bindsN fun _ _ _ _ _ _ us hl => match us, hl with | [_, _], _ => rfl
  obtain ⟨fd9, F9⟩ := c.def_ 9 (d := defD "_law_strange" s_law_strange) rfl
  have b9 : Binds K fd9 ["_law_draws_here", "_law_word"] [] := F9.bindsN fun _ _ _ _ _ _ us hl => match us, hl with | [_, _], _ => rfl
  obtain ⟨fd10, F10⟩ := c.def_ 10 (d := defD "_law_any_schema" s_law_any_schema) rfl
  have b10 : Binds K fd10 ["_law_draws_here", "_law_words_here"] [] := F10.bindsN fun _ _ _ _ _ _ us hl => match us, hl with | [_, _], _ => rfl
  obtain ⟨fd11, F11⟩ := c.def_ 11 (d := defD "_law_is_schema" s_law_is_schema) rfl
  have b11 : Binds K fd11 ["_law_schema"] [] := F11.bindsN fun _ _ _ _ _ _ us hl => match us, hl with | [_], _ => rfl
  obtain ⟨fd12, F12⟩ := c.def_ 12 (d := defD "_law_refused" s_law_refused) rfl
  have b12 : Binds K fd12 ["_law_schema"] [] := F12.bindsN fun _ _ _ _ _ _ us hl => match us, hl with | [_], _ => rfl
  obtain ⟨fd13, F13⟩ := c.def_ 13 (d := defD "_law_changed" s_law_changed) rfl
  have b13 : Binds K fd13 ["_law_draws_here", "_law_script", "_law_schema", "_law_words_here"] [] := F13.bindsN fun _ _ _ _ _ _ us hl => match us, hl with | [_, _, _, _], _ => rfl
  obtain ⟨fd14, F14⟩ := c.def_ 14 (d := defD "law" s_law) rfl
  have b14 : Binds K fd14 ["_law_script"] [] := F14.bindsN fun _ _ _ _ _ _ us hl => match us, hl with | [_], _ => rfl
  have ce0 := ce
  simp only [ex, Bool.and_eq_true] at ce0
  obtain ⟨ce, ce0, ce1, ce2, ce3, ce4, ce5, ce6, ce7, ce8, ce9, ce10, ce11, ce12, ce13, ce14⟩ := ce0
  exact ⟨He.free_ok X G (c.fact 15 (f := .free "ValueError") rfl),
    He.free_ok X G (c.fact 16 (f := .free "abs") rfl),
    He.free_ok X G (c.fact 17 (f := .free "all") rfl),
    He.free_ok X G (c.fact 18 (f := .free "bool") rfl),
    He.free_ok X G (c.fact 19 (f := .free "int") rfl),
    He.free_ok X G (c.fact 20 (f := .free "isinstance") rfl),
    He.free_ok X G (c.fact 21 (f := .free "len") rfl),
    He.free_ok X G (c.fact 22 (f := .free "list") rfl),
    He.free_ok X G (c.fact 23 (f := .free "max") rfl),
    He.free_ok X G (c.fact 24 (f := .free "range") rfl),
    He.free_ok X G (c.fact 25 (f := .free "set") rfl),
    He.free_ok X G (c.fact 26 (f := .free "sorted") rfl),
    He.free_ok X G (c.fact 27 (f := .free "str") rfl),
    He.free_ok X G (c.fact 28 (f := .free "tuple") rfl),
    He.str_ok X G (c.fact 29 (f := .str "LETTERS" "abcdefghijklmnopqrstuvwxyz") rfl),
    He.int_ok X G (c.fact 30 (f := .int "MOST_COLUMNS" 8) rfl),
    He.int_ok X G (c.fact 31 (f := .int "MOST_TABLES" 20) rfl),
    ⟨_, fd0, F0, He.glo_ok X G (c.fact 0 (f := .glo "is_word") rfl), b0⟩,
    ⟨_, fd1, F1, He.glo_ok X G (c.fact 1 (f := .glo "check_schema") rfl), b1⟩,
    ⟨_, fd2, F2, He.glo_ok X G (c.fact 2 (f := .glo "_law_draws") rfl), b2⟩,
    ⟨_, fd3, F3, He.glo_ok X G (c.fact 3 (f := .glo "_law_take") rfl), b3⟩,
    ⟨_, fd4, F4, He.glo_ok X G (c.fact 4 (f := .glo "_law_pick") rfl), b4⟩,
    ⟨_, fd5, F5, He.glo_ok X G (c.fact 5 (f := .glo "_law_size") rfl), b5⟩,
    ⟨_, fd6, F6, He.glo_ok X G (c.fact 6 (f := .glo "_law_same") rfl), b6⟩,
    ⟨_, fd7, F7, He.glo_ok X G (c.fact 7 (f := .glo "_law_is_word") rfl), b7⟩,
    ⟨_, fd8, F8, He.glo_ok X G (c.fact 8 (f := .glo "_law_words") rfl), b8⟩,
    ⟨_, fd9, F9, He.glo_ok X G (c.fact 9 (f := .glo "_law_strange") rfl), b9⟩,
    ⟨_, fd10, F10, He.glo_ok X G (c.fact 10 (f := .glo "_law_any_schema") rfl), b10⟩,
    ⟨_, fd11, F11, He.glo_ok X G (c.fact 11 (f := .glo "_law_is_schema") rfl), b11⟩,
    ⟨_, fd12, F12, He.glo_ok X G (c.fact 12 (f := .glo "_law_refused") rfl), b12⟩,
    ⟨_, fd13, F13, He.glo_ok X G (c.fact 13 (f := .glo "_law_changed") rfl), b13⟩,
    ⟨_, fd14, F14, He.glo_ok X G (c.fact 14 (f := .glo "law") rfl), b14⟩,
    exfB_ok X G ce0,
    catchB_ok X G ce1,
    isfB_ok X G ce2,
    He.glo_ok X G ce3,
    He.glo_ok X G ce4,
    He.glo_ok X G ce5,
    He.glo_ok X G ce6,
    He.glo_ok X G ce7,
    He.glo_ok X G ce8,
    He.glo_ok X G ce9,
    He.glo_ok X G ce10,
    He.glo_ok X G ce11,
    isfB_ok X G ce12,
    isfB_ok X G ce13,
    He.glo_ok X G ce14⟩
theorem facts {P : Program} {w : World} {K : PySem.W.Frag} {h : Heap} {mg : Str → Option Value} {f : Addr} (X : K.In h) (G : h.Ns mainGlobals mg) (hfa : mg ("law" : Str) = some (.ref f)) (c : He.SaysD fa fn K) (ce : ex K = true) :
    ∃ fd : FuncData, (∀ (s : Shared) (v : Value), BindsTo s fd ⟨[v], []⟩ [("_law_script", v)]) ∧ ∀ base : Heap, K.In base → base.Ns mainGlobals mg → FnOk P w K mg base CX0 14 f fd ["_law_script"] (spD ⟨K, w⟩ 1 m_law) := by
  have T := txt X G c ce
  obtain ⟨fd, F⟩ := c.def_ 14 (d := defD "law" s_law) rfl
  have g := He.glo_ok X G (c.fact 14 (f := .glo "law") rfl)
  have e := hfa.symm.trans g
  cases e
  have b := FunD.bindsA (ps := ["_law_script"]) F fun _ _ _ _ _ _ us hl => match us, hl with | [_], _ => rfl
  refine ⟨fd, fun s v => b s [v] rfl, fun base _ _ => ?_⟩
  have ok := ok_law (P := P) (w := w) (base := base) T
  obtain ⟨f', fd', h1, h2, h3, h4, h5⟩ := ok.ex
  have e2 := g.symm.trans h2
  cases e2
  have e3 := fn_same (x := "law") (st := s_law) F h5
  cases e3
  exact h1
end G
open PySem PySem.W PySem.Calls PyProof.Rows
set_option maxHeartbeats 0 in
theorem G.close (hm : ∀ ns : List Int, ns.length ≤ 63 → (∀ n ∈ ns, Builtin.Int.intBits n ≤ 1048576) → ∃ S', G.m_law [.rol (ns.map .int)] [] = some (.bl true, S')) : PySem.Challenge.rw_rightchance_k11_schemas_and_others.Holds := by
  w_on; o_law
  refine HandSHeadRun.head_any (r := OpenLaw.row PySem.Challenge.rw_rightchance_k11_schemas_and_others) (q := view (OpenLaw.row PySem.Challenge.rw_rightchance_k11_schemas_and_others).prog [32]) (H := G.hk) (ob := G.ob) (M := 20000) (loose := G.loose) (d := HandSHeadRun.topDef (OpenLaw.row PySem.Challenge.rw_rightchance_k11_schemas_and_others).prog 32) (kwd := []) G.ob_eq
    (by kernel_rfl) (fun s => by kernel_rfl) G.run (by kernel_rfl) (by kernel_rfl) (by kernel_rfl) (by rfl) (by first | assumption | decide +kernel) (by decide +kernel) ⟨rfl, rfl, rfl, rfl, rfl, by decide +kernel⟩ ?hw ?hc
  case hw => w_witness2
  case hc =>
    refine DL.walk_D (l := PySem.Challenge.rw_rightchance_k11_schemas_and_others) (k := 14) (x := "_law_script") (m := G.m_law) rfl (by kernel_rfl) ⟨rfl, by decide, by decide⟩ ?F hm
    intro w mg fa h Y Gm hmg0
    obtain ⟨K, KX, c, ce⟩ := Y
    have hmg : mg ("law" : PySem.Str) = some (.ref fa) := by
      have e : (HandSHeadRun.topDef (OpenLaw.row PySem.Challenge.rw_rightchance_k11_schemas_and_others).prog 32).name = ("law" : PySem.Str) := by kernel_rfl
      rw [← e]
      exact hmg0
    obtain ⟨fd, hb, hF⟩ := G.facts (P := (PySem.Challenge.rw_rightchance_k11_schemas_and_others).prog) (w := w) KX Gm hmg c ce
    exact ⟨K, fd, KX, hb, hF⟩


namespace G
open PySem L2 DL
local macro_rules | `(tactic| walk_at "wp") => `(tactic| try simp only [DL.w_seq, DL.w_d2, DL.w_d1, DL.w_dC, DL.w_call, DL.w_nil, DL.w_cons, DL.w_tup, DL.w_nLst, DL.w_dFz, DL.w_nList, DL.w_dFn, DL.w_nFn, DL.w_iRg, DL.w_iSeq, DL.w_tYes, DL.isB_bl, DL.w_dtE, DL.w_not, DL.w_and, DL.w_or, DL.w_andV, DL.w_orV, DL.w_ifE, DL.k_nx, DL.k_rt, DL.k_ro, DL.k_bk, DL.k_ct, DL.w_pass, DL.w_brk, DL.w_cnt, DL.w_if, DL.w_ret, DL.w_retN, DL.sRetO_s, DL.sRetO_z, DL.w_setF, DL.w_setP, DL.w_exp, DL.w_setO, DL.w_share, DL.w_mutF, DL.w_mutP, DL.fzE_c, DL.fzE_n, DL.frz_c, DL.frz_n, DL.fz1_no, DL.fz1_val, DL.fz1_own, DL.fz1_ownF, DL.frz1_no, DL.frz1_val, DL.frz1_own, DL.frz1_F, DL.chk_nil, DL.o_add, DL.o_addS, DL.o_addL, DL.o_addT, DL.o_sub, DL.o_mul, DL.o_fdiv, DL.o_mod, DL.o_pow, DL.o_shl, DL.o_neg, DL.o_eqI, DL.o_neI, DL.o_eqS, DL.o_neS, DL.o_eqB, DL.o_neB, DL.o_lt, DL.o_le, DL.o_gt, DL.o_ge, DL.o_is, DL.o_isn, DL.o_in, DL.o_nin, DL.o_inL, DL.o_inT, DL.o_inR, DL.o_inS, DL.o_idxL, DL.o_idxT, DL.o_idxR, DL.o_abs, DL.o_int, DL.o_intB, DL.o_gcd, DL.o_tupL, DL.o_tupT, DL.o_tupR, DL.o_bits, DL.q_lst, DL.q_rol, DL.q_tup, DL.it_lst, DL.it_rol, DL.it_tup, DL.it_str, DL.rg1, DL.rg2, DL.w_lenS, DL.ls_ref, DL.ls_lst, DL.ls_rol, DL.ls_tup, DL.ls_str, DL.l_lst, DL.l_rol, DL.l_tup, DL.l_str, DL.w_popS, DL.kD_rt, DL.kD_nx, DL.kD_ro, DL.kN_ro, DL.w_fnD, DL.w_fnN, DL.w_for, DL.w_forP, DL.w_comp, DL.w_own0, DL.w_setIP, DL.is_non, DL.is_bl, DL.is_int, DL.is_str, DL.is_tup, DL.is_lst, DL.w_oNo, DL.isI_int, DL.w_oPart, DL.w_dSl, DL.o_slL, DL.o_slR, DL.o_slT, DL.o_slS, DL.o_any, DL.o_all, DL.o_joinL, DL.o_max2, DL.o_min2, DL.o_maxL, DL.o_mulXS, DL.w_setOP, DL.w_mutAF, DL.w_mutAP, DL.o_ins, DL.o_ext, DL.o_extT, DL.w_setT, DL.b_n, DL.b_t, DL.b_nil, DL.b_cons, DL.putS_n, DL.putS_c, DL.w_append, DL.kL_nx, DL.kL_ct, DL.kL_bk, DL.kL_rt, DL.kL_ro, DL.lp_n, DL.lc_n, DL.ld_n, DL.putD_n, DL.putD_c, DL.wipe_n, DL.wipe_c, DL.o_at0, DL.o_at1, DL.o_at2, DL.o_at3, DL.o_at4, DL.isTy, DL.isNon, DL.dV_s, DL.dV_z, DL.wp_some, DL.wp_none, DL.wp_map, DL.envOf, DL.w_retF, DL.w_nAdd, DL.o_addLO, DL.w_sort, DL.w_sortK, DL.q_lstL, DL.q_lstR, DL.w_iRev, DL.w_tupRev, DL.o_str, DL.w_fnDd, DL.kOwn_o, DL.w_popT, DL.w_popX, DL.kPopT, DL.kPopX, DL.kSetI_o, DL.w_popI, DL.o_atN, DL.o_eqRow, DL.o_eqPlace, DL.o_fact2, DL.o_fact_0, DL.o_fact_1, DL.o_fact_2, DL.o_pl_0, DL.o_pl_1, DL.o_col_0, DL.o_col_1, DL.o_ch_0, DL.o_ch_1, DL.o_seqRow, DL.o_lenRow, DL.w_chain, DL.o_band1, DL.o_atom_0, DL.o_atom_1, DL.o_join_0, DL.o_join_1, DL.o_qn_0, DL.o_qn_1, DL.w_sortSet, DL.w_lenSet, DL.w_index, DL.o_ixO, DL.w_listRg, DL.w_comp2, DL.w_sortSC2, DL.o_isb, DL.o_isnb, DL.w_dFzD, DL.w_ndNil, DL.w_ndCopy, DL.dc_t, DL.dc_u, DL.w_look, DL.o_din, DL.o_dnin, DL.o_ditem, DL.w_dget2, DL.w_nKeys, DL.kDct_t, DL.w_iKeysD, DL.w_iItemsD, DL.kZip_t, DL.w_iZip, DL.w_ndComp, DL.w_setD, DL.kPutD_o, DL.w_putD, DL.w_lk, DL.lkS_n, DL.lkS_z, DL.lkS_s, DL.lk_d, DL.lk_val, DL.lk_no, DL.lk_own, DL.fz1_d, DL.fz1_xF, DL.frz1_d, DL.w_ndOne, DL.w_setG, DL.kSdApp_o, DL.w_sdApp, DL.lk_g, DL.fz1_g, DL.frz1_g, DL.w_ifM, DL.w_mT, DL.w_mAnd, DL.kSd_o, DL.w_neSd, DL.k_ex, DL.kL_ex, DL.kRz_ok, DL.kRz_ex, DL.kSm_l, DL.kSm_r, DL.w_retX, DL.w_setX, DL.w_expX, DL.w_raise, DL.w_xFn, DL.w_xD, DL.w_xNil, DL.w_xCons, DL.w_xTup, DL.w_xLst, DL.kX_rt, DL.kX_nx, DL.kX_ro, DL.kX_ex, DL.w_fnX, DL.kSu_nx, DL.kSu_rt, DL.kSu_ro, DL.kTry_ex, DL.kTry_nx, DL.kTry_rt, DL.kTry_ro, DL.w_try, DL.kClr_nx, DL.kClr_rt, DL.kClr_ro, DL.kTryAs_ex, DL.kTryAs_nx, DL.kTryAs_rt, DL.kTryAs_ro, DL.w_tryAs, DL.kIfE_rt, DL.kIfE_ro, DL.w_ifEs, DL.w_isE, DL.lk_hit, List.any_cons, List.any_nil, String.reduceBEq, String.reduceEq, Bool.true_and, Bool.and_true, Bool.or_true, Bool.true_or, Bool.false_or, Bool.not_true, Bool.not_false, Bool.and_false, Bool.false_and, decide_true, decide_false, bne_self_eq_false, beq_self_eq_true, Bool.true_eq_false, true_and, and_true, List.map_cons, List.map_nil, List.length_cons, List.length_nil, Nat.zero_add, Nat.reduceAdd, Nat.reduceSub, List.replicate_succ, List.replicate_zero, List.cons_append, List.nil_append, List.set_cons_succ, List.set_cons_zero, List.getElem?_cons_zero, List.getElem?_cons_succ, List.contains_cons, List.contains_nil, Bool.or_false, Nat.reduceBEq, Bool.false_eq_true, if_false, if_true, decide_eq_true_eq, Bool.not_eq_true', decide_eq_false_iff_not])
local macro_rules | `(tactic| walk_at "w1") => `(tactic| try simp only [DL.w_d2, DL.w_d1, DL.w_dC, DL.w_call, DL.w_nil, DL.w_cons, DL.w_tup, DL.w_nLst, DL.w_dFz, DL.w_nList, DL.w_dFn, DL.w_nFn, DL.w_iRg, DL.w_iSeq, DL.w_tYes, DL.isB_bl, DL.w_dtE, DL.w_not, DL.w_and, DL.w_or, DL.w_andV, DL.w_orV, DL.w_ifE, DL.k_nx, DL.k_rt, DL.k_ro, DL.k_bk, DL.k_ct, DL.w_pass, DL.w_brk, DL.w_cnt, DL.w_if, DL.w_ret, DL.w_retN, DL.sRetO_s, DL.sRetO_z, DL.w_setF, DL.w_setP, DL.w_exp, DL.w_setO, DL.w_share, DL.w_mutF, DL.w_mutP, DL.fzE_c, DL.fzE_n, DL.frz_c, DL.frz_n, DL.fz1_no, DL.fz1_val, DL.fz1_own, DL.fz1_ownF, DL.frz1_no, DL.frz1_val, DL.frz1_own, DL.frz1_F, DL.chk_nil, DL.o_add, DL.o_addS, DL.o_addL, DL.o_addT, DL.o_sub, DL.o_mul, DL.o_fdiv, DL.o_mod, DL.o_pow, DL.o_shl, DL.o_neg, DL.o_eqI, DL.o_neI, DL.o_eqS, DL.o_neS, DL.o_eqB, DL.o_neB, DL.o_lt, DL.o_le, DL.o_gt, DL.o_ge, DL.o_is, DL.o_isn, DL.o_in, DL.o_nin, DL.o_inL, DL.o_inT, DL.o_inR, DL.o_inS, DL.o_idxL, DL.o_idxT, DL.o_idxR, DL.o_abs, DL.o_int, DL.o_intB, DL.o_gcd, DL.o_tupL, DL.o_tupT, DL.o_tupR, DL.o_bits, DL.q_lst, DL.q_rol, DL.q_tup, DL.it_lst, DL.it_rol, DL.it_tup, DL.it_str, DL.rg1, DL.rg2, DL.w_lenS, DL.ls_ref, DL.ls_lst, DL.ls_rol, DL.ls_tup, DL.ls_str, DL.l_lst, DL.l_rol, DL.l_tup, DL.l_str, DL.w_popS, DL.kD_rt, DL.kD_nx, DL.kD_ro, DL.kN_ro, DL.w_fnD, DL.w_fnN, DL.w_for, DL.w_forP, DL.w_comp, DL.w_own0, DL.w_setIP, DL.is_non, DL.is_bl, DL.is_int, DL.is_str, DL.is_tup, DL.is_lst, DL.w_oNo, DL.isI_int, DL.w_oPart, DL.w_dSl, DL.o_slL, DL.o_slR, DL.o_slT, DL.o_slS, DL.o_any, DL.o_all, DL.o_joinL, DL.o_max2, DL.o_min2, DL.o_maxL, DL.o_mulXS, DL.w_setOP, DL.w_mutAF, DL.w_mutAP, DL.o_ins, DL.o_ext, DL.o_extT, DL.w_setT, DL.b_n, DL.b_t, DL.b_nil, DL.b_cons, DL.putS_n, DL.putS_c, DL.w_append, DL.kL_nx, DL.kL_ct, DL.kL_bk, DL.kL_rt, DL.kL_ro, DL.lp_n, DL.lc_n, DL.ld_n, DL.putD_n, DL.putD_c, DL.wipe_n, DL.wipe_c, DL.o_at0, DL.o_at1, DL.o_at2, DL.o_at3, DL.o_at4, DL.isTy, DL.isNon, DL.dV_s, DL.dV_z, DL.wp_some, DL.wp_none, DL.wp_map, DL.envOf, DL.w_retF, DL.w_nAdd, DL.o_addLO, DL.w_sort, DL.w_sortK, DL.q_lstL, DL.q_lstR, DL.w_iRev, DL.w_tupRev, DL.o_str, DL.w_fnDd, DL.kOwn_o, DL.w_popT, DL.w_popX, DL.kPopT, DL.kPopX, DL.kSetI_o, DL.w_popI, DL.o_atN, DL.o_eqRow, DL.o_eqPlace, DL.o_fact2, DL.o_fact_0, DL.o_fact_1, DL.o_fact_2, DL.o_pl_0, DL.o_pl_1, DL.o_col_0, DL.o_col_1, DL.o_ch_0, DL.o_ch_1, DL.o_seqRow, DL.o_lenRow, DL.w_chain, DL.o_band1, DL.o_atom_0, DL.o_atom_1, DL.o_join_0, DL.o_join_1, DL.o_qn_0, DL.o_qn_1, DL.w_sortSet, DL.w_lenSet, DL.w_index, DL.o_ixO, DL.w_listRg, DL.w_comp2, DL.w_sortSC2, DL.o_isb, DL.o_isnb, DL.w_dFzD, DL.w_ndNil, DL.w_ndCopy, DL.dc_t, DL.dc_u, DL.w_look, DL.o_din, DL.o_dnin, DL.o_ditem, DL.w_dget2, DL.w_nKeys, DL.kDct_t, DL.w_iKeysD, DL.w_iItemsD, DL.kZip_t, DL.w_iZip, DL.w_ndComp, DL.w_setD, DL.kPutD_o, DL.w_putD, DL.w_lk, DL.lkS_n, DL.lkS_z, DL.lkS_s, DL.lk_d, DL.lk_val, DL.lk_no, DL.lk_own, DL.fz1_d, DL.fz1_xF, DL.frz1_d, DL.w_ndOne, DL.w_setG, DL.kSdApp_o, DL.w_sdApp, DL.lk_g, DL.fz1_g, DL.frz1_g, DL.w_ifM, DL.w_mT, DL.w_mAnd, DL.kSd_o, DL.w_neSd, DL.k_ex, DL.kL_ex, DL.kRz_ok, DL.kRz_ex, DL.kSm_l, DL.kSm_r, DL.w_retX, DL.w_setX, DL.w_expX, DL.w_raise, DL.w_xFn, DL.w_xD, DL.w_xNil, DL.w_xCons, DL.w_xTup, DL.w_xLst, DL.kX_rt, DL.kX_nx, DL.kX_ro, DL.kX_ex, DL.w_fnX, DL.kSu_nx, DL.kSu_rt, DL.kSu_ro, DL.kTry_ex, DL.kTry_nx, DL.kTry_rt, DL.kTry_ro, DL.w_try, DL.kClr_nx, DL.kClr_rt, DL.kClr_ro, DL.kTryAs_ex, DL.kTryAs_nx, DL.kTryAs_rt, DL.kTryAs_ro, DL.w_tryAs, DL.kIfE_rt, DL.kIfE_ro, DL.w_ifEs, DL.w_isE, DL.lk_hit, List.any_cons, List.any_nil, String.reduceBEq, String.reduceEq, Bool.true_and, Bool.and_true, Bool.or_true, Bool.true_or, Bool.false_or, Bool.not_true, Bool.not_false, Bool.and_false, Bool.false_and, decide_true, decide_false, bne_self_eq_false, beq_self_eq_true, Bool.true_eq_false, true_and, and_true, List.map_cons, List.map_nil, List.length_cons, List.length_nil, Nat.zero_add, Nat.reduceAdd, Nat.reduceSub, List.replicate_succ, List.replicate_zero, List.cons_append, List.nil_append, List.set_cons_succ, List.set_cons_zero, List.getElem?_cons_zero, List.getElem?_cons_succ, List.contains_cons, List.contains_nil, Bool.or_false, Nat.reduceBEq, Bool.false_eq_true, if_false, if_true, decide_eq_true_eq, Bool.not_eq_true', decide_eq_false_iff_not])
local macro_rules | `(tactic| walk_at "wl") => `(tactic| try simp only [DL.w_seq, DL.lp_c, DL.lc_c, DL.ld_c, DL.w_d2, DL.w_d1, DL.w_dC, DL.w_call, DL.w_nil, DL.w_cons, DL.w_tup, DL.w_nLst, DL.w_dFz, DL.w_nList, DL.w_dFn, DL.w_nFn, DL.w_iRg, DL.w_iSeq, DL.w_tYes, DL.isB_bl, DL.w_dtE, DL.w_not, DL.w_and, DL.w_or, DL.w_andV, DL.w_orV, DL.w_ifE, DL.k_nx, DL.k_rt, DL.k_ro, DL.k_bk, DL.k_ct, DL.w_pass, DL.w_brk, DL.w_cnt, DL.w_if, DL.w_ret, DL.w_retN, DL.sRetO_s, DL.sRetO_z, DL.w_setF, DL.w_setP, DL.w_exp, DL.w_setO, DL.w_share, DL.w_mutF, DL.w_mutP, DL.fzE_c, DL.fzE_n, DL.frz_c, DL.frz_n, DL.fz1_no, DL.fz1_val, DL.fz1_own, DL.fz1_ownF, DL.frz1_no, DL.frz1_val, DL.frz1_own, DL.frz1_F, DL.chk_nil, DL.o_add, DL.o_addS, DL.o_addL, DL.o_addT, DL.o_sub, DL.o_mul, DL.o_fdiv, DL.o_mod, DL.o_pow, DL.o_shl, DL.o_neg, DL.o_eqI, DL.o_neI, DL.o_eqS, DL.o_neS, DL.o_eqB, DL.o_neB, DL.o_lt, DL.o_le, DL.o_gt, DL.o_ge, DL.o_is, DL.o_isn, DL.o_in, DL.o_nin, DL.o_inL, DL.o_inT, DL.o_inR, DL.o_inS, DL.o_idxL, DL.o_idxT, DL.o_idxR, DL.o_abs, DL.o_int, DL.o_intB, DL.o_gcd, DL.o_tupL, DL.o_tupT, DL.o_tupR, DL.o_bits, DL.q_lst, DL.q_rol, DL.q_tup, DL.it_lst, DL.it_rol, DL.it_tup, DL.it_str, DL.rg1, DL.rg2, DL.w_lenS, DL.ls_ref, DL.ls_lst, DL.ls_rol, DL.ls_tup, DL.ls_str, DL.l_lst, DL.l_rol, DL.l_tup, DL.l_str, DL.w_popS, DL.kD_rt, DL.kD_nx, DL.kD_ro, DL.kN_ro, DL.w_fnD, DL.w_fnN, DL.w_for, DL.w_forP, DL.w_comp, DL.w_own0, DL.w_setIP, DL.is_non, DL.is_bl, DL.is_int, DL.is_str, DL.is_tup, DL.is_lst, DL.w_oNo, DL.isI_int, DL.w_oPart, DL.w_dSl, DL.o_slL, DL.o_slR, DL.o_slT, DL.o_slS, DL.o_any, DL.o_all, DL.o_joinL, DL.o_max2, DL.o_min2, DL.o_maxL, DL.o_mulXS, DL.w_setOP, DL.w_mutAF, DL.w_mutAP, DL.o_ins, DL.o_ext, DL.o_extT, DL.w_setT, DL.b_n, DL.b_t, DL.b_nil, DL.b_cons, DL.putS_n, DL.putS_c, DL.w_append, DL.kL_nx, DL.kL_ct, DL.kL_bk, DL.kL_rt, DL.kL_ro, DL.lp_n, DL.lc_n, DL.ld_n, DL.putD_n, DL.putD_c, DL.wipe_n, DL.wipe_c, DL.o_at0, DL.o_at1, DL.o_at2, DL.o_at3, DL.o_at4, DL.isTy, DL.isNon, DL.dV_s, DL.dV_z, DL.wp_some, DL.wp_none, DL.wp_map, DL.envOf, DL.w_retF, DL.w_nAdd, DL.o_addLO, DL.w_sort, DL.w_sortK, DL.q_lstL, DL.q_lstR, DL.w_iRev, DL.w_tupRev, DL.o_str, DL.w_fnDd, DL.kOwn_o, DL.w_popT, DL.w_popX, DL.kPopT, DL.kPopX, DL.kSetI_o, DL.w_popI, DL.o_atN, DL.o_eqRow, DL.o_eqPlace, DL.o_fact2, DL.o_fact_0, DL.o_fact_1, DL.o_fact_2, DL.o_pl_0, DL.o_pl_1, DL.o_col_0, DL.o_col_1, DL.o_ch_0, DL.o_ch_1, DL.o_seqRow, DL.o_lenRow, DL.w_chain, DL.o_band1, DL.o_atom_0, DL.o_atom_1, DL.o_join_0, DL.o_join_1, DL.o_qn_0, DL.o_qn_1, DL.w_sortSet, DL.w_lenSet, DL.w_index, DL.o_ixO, DL.w_listRg, DL.w_comp2, DL.w_sortSC2, DL.o_isb, DL.o_isnb, DL.w_dFzD, DL.w_ndNil, DL.w_ndCopy, DL.dc_t, DL.dc_u, DL.w_look, DL.o_din, DL.o_dnin, DL.o_ditem, DL.w_dget2, DL.w_nKeys, DL.kDct_t, DL.w_iKeysD, DL.w_iItemsD, DL.kZip_t, DL.w_iZip, DL.w_ndComp, DL.w_setD, DL.kPutD_o, DL.w_putD, DL.w_lk, DL.lkS_n, DL.lkS_z, DL.lkS_s, DL.lk_d, DL.lk_val, DL.lk_no, DL.lk_own, DL.fz1_d, DL.fz1_xF, DL.frz1_d, DL.w_ndOne, DL.w_setG, DL.kSdApp_o, DL.w_sdApp, DL.lk_g, DL.fz1_g, DL.frz1_g, DL.w_ifM, DL.w_mT, DL.w_mAnd, DL.kSd_o, DL.w_neSd, DL.k_ex, DL.kL_ex, DL.kRz_ok, DL.kRz_ex, DL.kSm_l, DL.kSm_r, DL.w_retX, DL.w_setX, DL.w_expX, DL.w_raise, DL.w_xFn, DL.w_xD, DL.w_xNil, DL.w_xCons, DL.w_xTup, DL.w_xLst, DL.kX_rt, DL.kX_nx, DL.kX_ro, DL.kX_ex, DL.w_fnX, DL.kSu_nx, DL.kSu_rt, DL.kSu_ro, DL.kTry_ex, DL.kTry_nx, DL.kTry_rt, DL.kTry_ro, DL.w_try, DL.kClr_nx, DL.kClr_rt, DL.kClr_ro, DL.kTryAs_ex, DL.kTryAs_nx, DL.kTryAs_rt, DL.kTryAs_ro, DL.w_tryAs, DL.kIfE_rt, DL.kIfE_ro, DL.w_ifEs, DL.w_isE, DL.lk_hit, List.any_cons, List.any_nil, String.reduceBEq, String.reduceEq, Bool.true_and, Bool.and_true, Bool.or_true, Bool.true_or, Bool.false_or, Bool.not_true, Bool.not_false, Bool.and_false, Bool.false_and, decide_true, decide_false, bne_self_eq_false, beq_self_eq_true, Bool.true_eq_false, true_and, and_true, List.map_cons, List.map_nil, List.length_cons, List.length_nil, Nat.zero_add, Nat.reduceAdd, Nat.reduceSub, List.replicate_succ, List.replicate_zero, List.cons_append, List.nil_append, List.set_cons_succ, List.set_cons_zero, List.getElem?_cons_zero, List.getElem?_cons_succ, List.contains_cons, List.contains_nil, Bool.or_false, Nat.reduceBEq, Bool.false_eq_true, if_false, if_true, decide_eq_true_eq, Bool.not_eq_true', decide_eq_false_iff_not])
theorem lg_lt {i : Int} {k : Nat} (hk : 0 < k) (h : i.natAbs < 2 ^ k) : i.natAbs.log2 < k := by
  by_cases e : i.natAbs = 0
  · rw [e]; simpa using hk
  · exact (Nat.log2_lt e).2 h
theorem mulOk_of {i j : Int} (h : i.natAbs.log2 + j.natAbs.log2 < 67108864) : mulOk i j = true := decide_eq_true h
theorem lgn_of {a k : Nat} (h : a < 2 ^ (k + 1)) : a.log2 ≤ k := by
  by_cases e : a = 0
  · subst e; simp
  · exact Nat.le_of_lt_succ ((Nat.log2_lt e).2 h)
theorem lgn_lt {a : Nat} : a < 2 ^ (a.log2 + 1) := Nat.lt_log2_self
theorem lgn_mul (a b : Nat) : (a * b).log2 ≤ a.log2 + b.log2 + 1 := by
  refine lgn_of ?_
  have := Nat.mul_lt_mul'' (@lgn_lt a) (@lgn_lt b)
  rw [← Nat.pow_add] at this
  rwa [show a.log2 + b.log2 + 1 + 1 = a.log2 + 1 + (b.log2 + 1) by omega]
theorem lgn_add (a b : Nat) : (a + b).log2 ≤ a.log2 + b.log2 + 1 := by
  refine lgn_of ?_
  have h1 : 2 ^ (a.log2 + 1) ≤ 2 ^ (a.log2 + b.log2 + 1) := Nat.pow_le_pow_right (by decide) (by omega)
  have h2 : 2 ^ (b.log2 + 1) ≤ 2 ^ (a.log2 + b.log2 + 1) := Nat.pow_le_pow_right (by decide) (by omega)
  have := @lgn_lt a
  have := @lgn_lt b
  rw [Nat.pow_succ _ (a.log2 + b.log2 + 1)]
  omega
theorem lg_pw {n k : Nat} (h : n ≤ 2 ^ k) : (n : Int).natAbs.log2 < k + 1 := @lg_lt (n : Int) (k + 1) (by omega) (by rw [Int.natAbs_natCast]; have := Nat.pow_lt_pow_right (a := 2) (by decide) (Nat.lt_succ_self k); omega)
theorem pw_mul {a b j k : Nat} (h1 : a ≤ 2 ^ j) (h2 : b ≤ 2 ^ k) : a * b ≤ 2 ^ (j + k) := by
  rw [Nat.pow_add]
  exact Nat.mul_le_mul h1 h2
theorem pw_lt' {a j k : Nat} (h1 : a ≤ 2 ^ j) (h2 : j < k) : a < 2 ^ k := Nat.lt_of_le_of_lt h1 (Nat.pow_lt_pow_right (by decide) h2)
/-- the tape of draws, ahead of other shared lists -/
def tp (l : List Int) (R : Sh) : Sh := l.map .int :: R
theorem take_wp {l : List Int} {R : Sh} {m : Int} {Q : D × Sh → Prop} (hm : 0 < m) (h : ∀ v (l' : List Int), 0 ≤ v → v < m → Q (.int v, tp l' R)) : wp (m_law_take [.ref 0, .int m] (tp l R)) Q := by
  unfold m_law_take b_law_take tp
  walk_at "wp"
  rcases List.eq_nil_or_concat l with rfl | ⟨l', x, rfl⟩
  · exact h 0 [] (by omega) hm
  · have e : ¬ ((((l'.concat x).map D.int).length : Int) = 0) := by simp; omega
    simp only [e, if_false, List.concat_eq_append, List.map_append, List.map_cons, List.map_nil, List.length_append, List.length_cons, List.length_nil, List.dropLast_concat]
    rw [show (List.map D.int l' ++ [D.int x])[(List.map D.int l').length + (0 + 1) - 1]? = some (.int x) by simp]
    walk_at "wp"
    exact ⟨by omega, h _ l' (Int.fmod_nonneg_of_pos _ hm) (Int.fmod_lt_of_pos _ hm)⟩
/-- the same with naturals -/
theorem takeN_wp {l : List Int} {R : Sh} {m : Nat} {Q : D × Sh → Prop} (hm : 0 < m) (h : ∀ (v : Nat) (l' : List Int), v < m → Q (.int v, tp l' R)) : wp (m_law_take [.ref 0, .int m] (tp l R)) Q :=
  take_wp (by omega) fun v l' h1 h2 => by
    obtain ⟨n, rfl⟩ := Int.eq_ofNat_of_zero_le h1
    exact h n l' (by omega)
theorem pure_ints : ∀ (l : List Int), pureDs (l.map .int) = true
  | [] => rfl
  | i :: l => by rw [List.map_cons, pureDs, pure_ints l]; rfl
theorem chk_tp {ks : List Nat} {l : List Int} {R : Sh} (h : pureSh R = true) : chk ks (tp l R) = true := by
  unfold chk tp
  rw [pureSh, pure_ints, h]
  simp
/-- the draws -/
theorem draws_wp {ns : List Int} {m : Nat} {Q : List D × Sh → Prop} (hm : m ≤ 1000000) (hl : ns.length ≤ 1000000) (hc : ∀ c ∈ ns, c.natAbs.log2 ≤ 1048576) (h : ∀ (l : List Int), Q (l.map .int, [])) :
    wp (mN_law_draws [.rol (ns.map .int), .int m] []) Q := by
  unfold mN_law_draws b_law_draws
  walk_at "w1"
  rw [w_seq]
  walk_at "w1"
  refine wp_ok (comp_map id _ _ ?_ ?_) ?_
  · intro d hd
    obtain ⟨c, hc', rfl⟩ := List.mem_map.1 hd
    exact ⟨_, rfl, rfl, rfl⟩
  · simp only [List.length_nil, List.length_map, sizeLine]; omega
  walk_at "w1"
  simp only [List.map_id, List.nil_append]
  rw [w_seq]
  refine wp_mono (Q := fun (o : Out) => ∃ cs : List Int, cs ≠ [] ∧ (∀ c ∈ cs, c.natAbs.log2 ≤ 1048576) ∧ o = .nx [Sl.val (D.rol (List.map D.int ns)), Sl.val (D.int ↑m), Sl.own (cs.map .int), Sl.no, Sl.no, Sl.no, Sl.no, Sl.no, Sl.no] []) ?_ ?_
  · walk_at "w1"
    refine ⟨rfl, ?_⟩
    split
    · rename_i e
      have : ns = [] := by simpa using e
      subst this
      exact ⟨by decide, [0], by simp, by simp, rfl⟩
    · rename_i e
      exact ⟨ns, fun h => e (by simp [h]), hc, rfl⟩
  · rintro _ ⟨cs, hne, hcs, rfl⟩
    walk_at "wp"
    refine ⟨by decide, ⟨⟨by omega, by omega⟩, ?_⟩⟩
    have hpos : 0 < cs.length := List.length_pos_iff.2 hne
    refine loop_n (fun xs σ S => S = [] ∧ ∃ (rs ds : List Int) (x5 x6 x8 : Sl), rs.length = cs.length ∧ ds.length + xs.length ≤ m ∧ (∀ x ∈ xs, ∃ i : Nat, i < 2000000 ∧ x = .int i) ∧
      σ = [Sl.val (D.rol (List.map D.int ns)), Sl.val (D.int ↑m), Sl.val (.lst (cs.map .int)), Sl.own (rs.map .int), Sl.own (ds.map .int), x5, x6, Sl.no, x8]) _ _ _ _ ⟨rfl, cs, [], .no, .no, .no, rfl, ?_, ?_, rfl⟩ ?_ ?_
    · simp [rngO]
    · intro x hx
      simp only [rngO, List.mem_map, List.mem_range] at hx
      obtain ⟨i, hi, rfl⟩ := hx
      exact ⟨i, by omega, by simp⟩
    · rintro x r _ _ ⟨rfl, rs, ds, x5, x6, x8, h1, h2, h3, rfl⟩
      obtain ⟨i, hi, rfl⟩ := h3 x (by simp)
      simp only [List.length_cons] at h2
      walk_at "wp"
      have hat : ∃ n : Nat, n < cs.length ∧ (↑i : Int).fmod ↑(List.map D.int cs).length = n := by
        have e1 := Int.fmod_nonneg_of_pos (i : Int) (b := ((List.map D.int cs).length : Int)) (by simp; omega)
        have e2 := Int.fmod_lt_of_pos (i : Int) (b := ((List.map D.int cs).length : Int)) (by simp; omega)
        obtain ⟨n, e3⟩ := Int.eq_ofNat_of_zero_le e1
        refine ⟨n, ?_, e3⟩
        rw [e3] at e2
        simpa using e2
      obtain ⟨n, hn, e3⟩ := hat
      rw [e3]
      simp only [DL.atI_nat, List.getElem?_map, List.getElem?_eq_getElem hn, List.getElem?_eq_getElem (show n < rs.length by omega), Option.map_some]
      walk_at "wp"
      refine ⟨by simp; omega, by decide, rfl, ?_⟩
      split
      · refine ⟨by decide, rfl, ?_⟩
        refine ⟨by simp [sizeLine]; omega, by decide, rfl, ?_⟩
        rw [DL.o_ixN (by simp; omega)]
        exact ⟨rs.set n (rs[n].fdiv 1000), ds ++ [rs[n].fmod 1000], Sl.val (D.int ↑i), Sl.val (D.int ↑n), x8, by simpa using h1, by simp; omega, fun x hx => h3 x (by simp [hx]), by simp [List.map_set]⟩
      · have hb1 := hcs _ (List.getElem_mem hn)
        have hb2 : (48271 : Int).natAbs.log2 = 15 := by decide
        have hb3 : (69621 : Int).natAbs.log2 = 16 := by decide
        have hb4 : (3 : Int).natAbs.log2 = 1 := by decide
        have hb5 := @lg_lt (i : Int) 30 (by decide) (by omega)
        refine ⟨mulOk_of (by omega), mulOk_of (by omega), by decide, ?_⟩
        generalize hv : Int.fmod _ 2147483647 = v
        have hv1 : 0 ≤ v := hv ▸ Int.fmod_nonneg_of_pos _ (by decide)
        have hv2 : v < 2147483647 := hv ▸ Int.fmod_lt_of_pos _ (by decide)
        have hb6 := @lg_lt v 40 (by decide) (by omega)
        refine ⟨mulOk_of (by omega), mulOk_of (by omega), by decide, ?_⟩
        refine ⟨by simp [sizeLine]; omega, ?_⟩
        exact ⟨rs, ds ++ [(v * v + 3 * v + i).fmod 1000003], Sl.val (D.int ↑i), Sl.val (D.int ↑n), Sl.val (.int v), h1, by simp; omega, fun x hx => h3 x (by simp [hx]), by simp⟩
    · rintro _ _ ⟨rfl, rs, ds, x5, x6, x8, h1, h2, h3, rfl⟩
      walk_at "wp"
      rw [← List.map_reverse]
      exact h ds.reverse
mutual
def smOk : Nat → D → Bool
  | _, .non => true
  | _, .bl _ => true
  | _, .int _ => true
  | _, .str _ => true
  | n, .tup ds => match n with | 0 => false | n + 1 => decide (ds.length ≤ sizeLine) && smOks n ds
  | n, .lst ds => match n with | 0 => false | n + 1 => decide (ds.length ≤ sizeLine) && smOks n ds
  | _, _ => false
def smOks : Nat → List D → Bool
  | _, [] => true
  | n, d :: ds => smOk n d && smOks n ds
end
theorem smOks_mem {n : Nat} : ∀ {ds : List D} {d : D}, smOks n ds = true → d ∈ ds → smOk n d = true
  | d :: ds, x, h, m => by
    rw [smOks, Bool.and_eq_true] at h
    rcases List.mem_cons.1 m with rfl | m
    · exact h.1
    · exact smOks_mem h.2 m
theorem eqOks_bl {n : Nat} : ∀ {ds : List D}, (∀ d ∈ ds, d = .bl true) → eqOks n ds = true ∧ (ds.any fun z => eqD z (.bl false)) = false
  | [], _ => by simp [eqOks]
  | d :: ds, h => by
    obtain rfl := h d (by simp)
    have := @eqOks_bl n ds fun d hd => h d (by simp [hd])
    simp [eqOks, eqOk, eqD, this]
theorem same_eq : ∀ (n : Nat) (d : D) (S : Sh), smOk n d = true → m_law_same (n + 1) [d, d] S = some (.bl true, S)
  | n, d, S, h => by
    have lp : ∀ ds, (d = .tup ds ∨ d = .lst ds) → (-2 ^ 62 ≤ (ds.length : Int) ∧ (ds.length : Int) < 2 ^ 62) ∧ wp (loopC (Tg.n 2) dtYes (dFn 2 (m_law_same n) (dCons (d2 idxD (dV 0) (dV 2)) (dCons (d2 idxD (dV 1) (dV 2)) dNil)))
        (wipeD [some d, some d, none] [2]) (rngO 0 (↑ds.length : Int).toNat) [] S)
      (fun p =>
      (eqOk 60 (D.bl false) = true ∧ eqOks 60 p.fst = true) ∧
        (D.bl !p.fst.any fun z => eqD z (D.bl false), p.snd) = (D.bl true, S)) := by
      intro ds hd
      cases n with
      | zero => rcases hd with rfl | rfl <;> cases h
      | succ n =>
        have h' : ds.length ≤ sizeLine ∧ smOks n ds = true := by
          rcases hd with rfl | rfl <;> · rw [smOk, Bool.and_eq_true, decide_eq_true_eq] at h; exact h
        refine ⟨by have := h'.1; unfold sizeLine at this; omega, wp_ok (comp_map (fun _ => .bl true) _ _ ?_ ?_) ?_⟩
        · intro x hx
          simp only [rngO, List.mem_map, List.mem_range] at hx
          obtain ⟨i, hi, rfl⟩ := hx
          refine ⟨_, rfl, rfl, ?_⟩
          apply wp_eq
          show wp ((dFn 2 (m_law_same (n + 1)) (dCons (d2 idxD (dV 0) (dV 2)) (dCons (d2 idxD (dV 1) (dV 2)) dNil))) [some d, some d, some (.int (0 + i))] S) _
          have hi' : i < ds.length := by simpa using hi
          have e : idxD d (.int (0 + i)) = some ds[i] := by
            rw [Int.zero_add]
            rcases hd with rfl | rfl <;> · show atI ds _ = _; rw [DL.atI_nat, List.getElem?_eq_getElem hi']
          walk_at "wp"
          rw [e]
          walk_at "wp"
          exact wp_ok (same_eq n _ S (smOks_mem h'.2 (List.getElem_mem hi'))) rfl
        · simp [rngO]
          exact h'.1
        · simp only [List.nil_append]
          have := @eqOks_bl 60 ((rngO 0 (↑ds.length : Int).toNat).map fun _ => .bl true) (by simp)
          rw [this.1, this.2]
          simp [eqOk]
    unfold m_law_same b_law_same
    apply wp_eq
    cases d with
    | non =>
      walk_at "wp"
      simp [o_eq, eqOk, eqD]
    | int i =>
      walk_at "wp"
    | bl i =>
      walk_at "wp"
    | str i =>
      walk_at "wp"
    | tup ds =>
      walk_at "wp"
      exact lp ds (.inl rfl)
    | lst ds =>
      walk_at "wp"
      exact lp ds (.inr rfl)
    | _ => cases h
theorem pick_wp {l : List Int} {R : Sh} {ds : List D} {Q : D × Sh → Prop} (hd : 0 < ds.length) (h : ∀ d ∈ ds, ∀ l' : List Int, Q (d, tp l' R)) : wp (m_law_pick [.ref 0, .lst ds] (tp l R)) Q := by
  unfold m_law_pick b_law_pick
  walk_at "wp"
  refine takeN_wp hd fun n l1 h1 => ?_
  walk_at "wp"
  rw [DL.o_get h1]
  exact h _ (List.getElem_mem h1) _
theorem pickT_wp {l : List Int} {R : Sh} {ds : List D} {Q : D × Sh → Prop} (hd : 0 < ds.length) (h : ∀ d ∈ ds, ∀ l' : List Int, Q (d, tp l' R)) : wp (m_law_pick [.ref 0, .tup ds] (tp l R)) Q := by
  unfold m_law_pick b_law_pick
  walk_at "wp"
  refine takeN_wp hd fun n l1 h1 => ?_
  walk_at "wp"
  rw [DL.o_get h1]
  exact h _ (List.getElem_mem h1) _
theorem size_loop {l : List Int} {R : Sh} {x : D} {v : Int} {QO : Out → Prop} (hQ : ∀ (a : Int) (l' : List Int) x4, 0 ≤ a → a < 1000 ^ 5 → QO (.nx [Sl.val (D.ref 0), Sl.val x, Sl.val (D.int v), Sl.val (D.int a), x4] (tp l' R))) :
    wp (loopF (Tg.n 4) l_law_size_1 (rngO 0 (Int.toNat 5)) [Sl.val (D.ref 0), Sl.val x, Sl.val (D.int v), Sl.val (D.int 0), Sl.no] (tp l R)) QO := by
  refine loop_n (fun xs σ S => ∃ (a : Int) (l' : List Int) (x4 : Sl), xs.length ≤ 5 ∧ 0 ≤ a ∧ a < 1000 ^ (5 - xs.length) ∧ σ = [Sl.val (D.ref 0), Sl.val x, Sl.val (D.int v), Sl.val (D.int a), x4] ∧ S = tp l' R) QO _ _ _ ⟨0, l, .no, by decide, by decide, by decide, rfl, rfl⟩ ?_ ?_
  · rintro y r _ _ ⟨a, l', x4, h3, h4, h5, rfl, rfl⟩
    simp only [List.length_cons] at h3 h5
    walk_at "wp"
    have h6 : a < 1000 ^ 5 := Int.lt_of_lt_of_le h5 (by exact_mod_cast Nat.pow_le_pow_right (by decide) (show 5 - (r.length + 1) ≤ 5 by omega))
    refine ⟨mulOk_of ?_, take_wp (by decide) fun v l1 h1 h2 => ?_⟩
    · have := @lg_lt a 50 (by decide) (by omega)
      have : ((1000 : Int).natAbs.log2) = 9 := by decide
      omega
    · walk_at "wp"
      refine ⟨_, _, _, by omega, ?_, ?_, rfl, rfl⟩
      · omega
      · have : (1000 : Int) ^ (5 - r.length) = 1000 ^ (5 - (r.length + 1)) * 1000 := by
          rw [← Int.pow_succ]
          congr 1
          omega
        omega
  · rintro _ _ ⟨a, l', x4, h3, h4, h5, rfl, rfl⟩
    exact hQ _ _ _ h4 h5
theorem size_gen {l cs : List Int} {R : Sh} {x : D} {Q : D × Sh → Prop} (hx : x = .lst (cs.map .int) ∨ x = .rol (cs.map .int)) (P : Int → Prop) (h0 : ∀ v, 0 ≤ v → v < 10 ^ 15 → P v) (hc : ∀ c ∈ cs, P (if c < 0 then -c else c)) (h : ∀ v (l' : List Int), 0 ≤ v → P v → Q (.int v, tp l' R)) :
    wp (m_law_size [.ref 0, x] (tp l R)) Q := by
  have at_ : ∀ n : Nat, n < cs.length → ∃ c ∈ cs, idxD x (.int (n : Int)) = some (.int c) := fun n hn => by
    have e : ∀ (hh : atI (cs.map D.int) (n : Int) = idxD x (.int (n : Int))), ∃ c ∈ cs, idxD x (.int (n : Int)) = some (.int c) := fun hh => by
      rw [← hh, DL.atI_nat, List.getElem?_map, List.getElem?_eq_getElem hn]
      exact ⟨_, List.getElem_mem hn, rfl⟩
    rcases hx with rfl | rfl <;> exact e rfl
  have len_ : ∀ (S : Sh) (Q : D → Prop), wp (lenS x S) Q = Q (.int cs.length) := fun S Q => by
    rcases hx with rfl | rfl
    · rw [DL.ls_lst, List.length_map]
    · rw [DL.ls_rol, List.length_map]
  unfold m_law_size b_law_size
  walk_at "wp"
  refine take_wp (by decide) fun v l1 h1 h2 => ?_
  walk_at "wp"
  split
  · refine take_wp (by decide) fun v l1 h1 h2 => ?_
    walk_at "wp"
    exact h _ _ h1 (h0 _ h1 (by omega))
  · split
    · refine take_wp (by decide) fun v l1 h1 h2 => ?_
      walk_at "wp"
      exact h _ _ h1 (h0 _ h1 (by omega))
    · split
      · refine ⟨by decide, size_loop fun a l' x4 h3 h4 => ?_⟩
        walk_at "wp"
        exact h _ _ h3 (h0 _ h3 (by omega))
      · rw [len_]
        walk_at "wp"
        split
        · refine ⟨by decide, size_loop fun a l' x4 h3 h4 => ?_⟩
          walk_at "wp"
          exact h _ _ h3 (h0 _ h3 (by omega))
        · rename_i hl
          rw [len_]
          walk_at "wp"
          refine takeN_wp (by omega) fun n l1 h1 => ?_
          walk_at "wp"
          obtain ⟨c, hc', e⟩ := at_ n h1
          refine wp_ok e ?_
          walk_at "wp"
          exact h _ _ (by split <;> omega) (hc c hc')
theorem size_wp {l cs : List Int} {R : Sh} {Q : D × Sh → Prop} (hc : ∀ c ∈ cs, c.natAbs < 10 ^ 59) (h : ∀ (v : Nat) (l' : List Int), v < 10 ^ 59 → Q (.int v, tp l' R)) :
    wp (m_law_size [.ref 0, .lst (cs.map .int)] (tp l R)) Q :=
  size_gen (.inl rfl) (· < 10 ^ 59) (fun v h1 h2 => by show v < _; omega) (fun c hc' => by have := hc c hc'; show (if c < 0 then -c else c) < _; split <;> omega) fun v l' h1 h2 => by
    obtain ⟨n, rfl⟩ := Int.eq_ofNat_of_zero_le h1
    exact h n l' (by have : (n : Int) < 10 ^ 59 := h2; omega)
/-- of the script: any size -/
theorem size_rol {l cs : List Int} {R : Sh} {Q : D × Sh → Prop} (h : ∀ v (l' : List Int), 0 ≤ v → (v < 10 ^ 15 ∨ ∃ c ∈ cs, v.natAbs = c.natAbs) → Q (.int v, tp l' R)) : wp (m_law_size [.ref 0, .rol (cs.map .int)] (tp l R)) Q :=
  size_gen (.inr rfl) (fun v => v < 10 ^ 15 ∨ ∃ c ∈ cs, v.natAbs = c.natAbs) (fun v h1 h2 => .inl h2) (fun c hc => .inr ⟨c, hc, by split <;> omega⟩) h
theorem letter_at {n : Nat} (hn : n < 26) : ∃ c, idxD (.str "abcdefghijklmnopqrstuvwxyz") (.int n) = some (.str (letS c)) ∧ isLet c = true := by
  have hall : ∃ c, (atI lets.cps.toList (n : Int)) = some c ∧ isLet c = true := by
    rw [DL.atI_nat]
    have : lets.cps.toList.length = 26 := by decide
    rw [List.getElem?_eq_getElem (by omega)]
    exact ⟨_, rfl, decide_eq_true (List.getElem_mem _)⟩
  obtain ⟨c, e1, e2⟩ := hall
  refine ⟨c, ?_, e2⟩
  show (if (lets.length ≤ sizeLine) then (atI lets.cps.toList (n : Int)).map fun c => D.str ⟨#[c]⟩ else none) = _
  rw [if_pos (by decide), e1]
  rfl
/-- words, none longer than k -/
structure Words (k : Nat) (ws : List Str) : Prop where
  w : ∀ s ∈ ws, isW s = true
  len : ∀ s ∈ ws, s.length ≤ k
  nd : ws.Nodup
theorem Words.snoc {k : Nat} {ws : List Str} {s : Str} (h : Words k ws) (hw : isW s = true) (hl : s.length ≤ k + 1) (hn : s ∉ ws) : Words (k + 1) (ws ++ [s]) := by
  refine ⟨fun x hx => ?_, fun x hx => ?_, ?_⟩
  rotate_left 2
  · rw [List.nodup_append]
    refine ⟨h.nd, by simp, fun a ha b hb => ?_⟩
    rw [List.mem_singleton.1 hb]
    rintro rfl
    exact hn ha
  · rcases List.mem_append.1 hx with hx | hx
    · exact h.w x hx
    · rw [List.mem_singleton.1 hx]; exact hw
  · rcases List.mem_append.1 hx with hx | hx
    · exact Nat.le_succ_of_le (h.len x hx)
    · rw [List.mem_singleton.1 hx]; exact hl
theorem strsOf_map : ∀ (ws : List Str), strsOf (ws.map .str) = some ws
  | [] => rfl
  | w :: ws => by rw [List.map_cons, strsOf, strsOf_map ws]; rfl
theorem intsOf_map : ∀ (ws : List Int), intsOf (ws.map .int) = some ws
  | [] => rfl
  | w :: ws => by rw [List.map_cons, intsOf, intsOf_map ws]; rfl
theorem any_str {ws : List Str} {s : Str} : ((ws.map D.str).any fun z => eqD z (.str s)) = decide (s ∈ ws) := by
  rw [List.any_map]
  induction ws with
  | nil => simp
  | cons w ws ih =>
    rw [List.any_cons, ih]
    simp only [Function.comp_apply, eqD_str, List.mem_cons]
    rw [← Bool.decide_or]
    congr 1
    simp [eq_comm]
theorem isW_len {s : Str} (h : isW s = true) : 0 < s.length := by
  rw [← len_cps]
  exact List.length_pos_iff.2 (isW_iff.1 h).1
theorem max_len {ws : List Str} {k : Nat} (h : ws ≠ []) (hk : ∀ s ∈ ws, s.length ≤ k) : ∃ m : Nat, (ws.map fun s => (s.length : Int)).max? = some (m : Int) ∧ m ≤ k ∧ (∀ s ∈ ws, s.length ≤ m) ∧ ∃ s ∈ ws, s.length = m := by
  cases e : (ws.map fun s => (s.length : Int)).max? with
  | none =>
    rw [List.max?_eq_none_iff] at e
    exact absurd (by simpa using e) h
  | some m =>
    have := (List.max?_eq_some_iff.1 e).1
    have hall := (List.max?_eq_some_iff.1 e).2
    obtain ⟨s, hs, rfl⟩ := List.mem_map.1 this
    exact ⟨s.length, rfl, hk s hs, fun z hz => by have := hall _ (List.mem_map_of_mem hz); omega, s, hs, rfl⟩
theorem word_letters {l : List Int} {R : Sh} {n : Nat} {r : List (Option D)} {Q : List D × Sh → Prop} (hn : n ≤ 60) (h : ∀ (ys : List Str) (l' : List Int), ys.length = n → (∀ y ∈ ys, isW y = true ∧ y.length = 1) → Q (ys.map .str, tp l' R)) :
    wp (loopC (Tg.n 6) dtYes (d2 idxD (dC (D.str "abcdefghijklmnopqrstuvwxyz")) (dFn 2 m_law_take (dCons (dV 0) (dCons (dC (D.int 26)) dNil)))) (some (.ref 0) :: r) (rngO 0 n) [] (tp l R)) Q := by
  refine comp_inv (fun xs acc S => ∃ (ys : List Str) (l' : List Int), acc = ys.map .str ∧ S = tp l' R ∧ xs.length + ys.length = n ∧ ∀ y ∈ ys, isW y = true ∧ y.length = 1) _ _ _ ⟨[], l, rfl, rfl, by simp [rngO], by simp⟩ ?_ ?_
  · rintro d r' _ _ ⟨ys, l', rfl, rfl, h1, h2⟩
    refine ⟨_, rfl, ?_⟩
    walk_at "wp"
    refine takeN_wp (m := 26) (by decide) fun v l2 hv => ?_
    obtain ⟨c, e, hc⟩ := letter_at hv
    refine wp_ok e ?_
    simp only [List.length_cons] at h1
    refine ⟨by simp [sizeLine]; omega, ys ++ [letS c], l2, by simp, rfl, by simp; omega, fun y hy => ?_⟩
    rcases List.mem_append.1 hy with hy | hy
    · exact h2 y hy
    · rw [List.mem_singleton.1 hy]
      exact ⟨isW_let hc, len_let c⟩
  · rintro _ _ ⟨ys, l', rfl, rfl, h1, h2⟩
    exact h ys l' (by simpa using h1) h2
theorem joined {ys : List Str} {n : Nat} (h0 : 0 < n) (h1 : ys.length = n) (h2 : ∀ y ∈ ys, isW y = true ∧ y.length = 1) : isW (Txt.join ("" : Str) ys) = true ∧ (Txt.join ("" : Str) ys).length = n := by
  refine ⟨isW_join (fun e => by subst e; simp at h1; omega) fun y hy => (h2 y hy).1, ?_⟩
  rw [join_len, ← h1]
  clear h1
  induction ys with
  | nil => rfl
  | cons y ys ih =>
    rw [List.map_cons, List.sum_cons, ih fun z hz => h2 z (by simp [hz]), (h2 y (by simp)).2, List.length_cons]
    omega
theorem ok_str {n : Nat} (s : Str) : eqOk n (.str s) = true := by simp [eqOk]
theorem rep_len (n : Nat) : (repS ("z" : Str) n).length = n := by
  rw [← len_cps, rep_cps, List.length_flatten, List.map_replicate, List.sum_replicate_nat, len_cps, show ("z" : Str).length = 1 from rfl, Nat.mul_one]
theorem words_wp {l : List Int} {R : Sh} {n : Nat} {Q : D × Sh → Prop} (hR : pureSh R = true) (hn : n ≤ 1000) (h : ∀ (ws : List Str) (l' : List Int), ws.length = n → Words (30 + n) ws → Q (.lst (ws.map .str), tp l' R)) : wp (m_law_words [.ref 0, .int n] (tp l R)) Q := by
  unfold m_law_words b_law_words
  walk_at "w1"
  rw [w_seq]
  walk_at "w1"
  refine ⟨by decide, ?_⟩
  rw [w_seq]
  walk_at "w1"
  refine ⟨by omega, ?_⟩
  refine loop_n (fun xs σ S => ∃ (ws : List Str) (l' : List Int) (x3 x4 x5 x6 x7 : Sl), xs.length + ws.length = n ∧ Words (30 + ws.length) ws ∧ S = tp l' R ∧
      σ = [Sl.val (D.ref 0), Sl.val (D.int n), Sl.own (ws.map .str), x3, x4, x5, x6, x7]) _ _ _ _ ?_ ?_ ?_
  · exact ⟨[], l, _, _, _, _, _, by simp [rngO], ⟨by simp, by simp, by simp⟩, rfl, rfl⟩
  · rintro x r _ _ ⟨ws, l', x3, x4, x5, x6, x7, h1, h2, rfl, rfl⟩
    simp only [List.length_cons] at h1
    walk_at "w1"
    rw [w_seq]
    refine wp_mono (Q := fun (o : Out) => ∃ (k : Nat) (l' : List Int), 0 < k ∧ k ≤ 3 ∧ o = .nx [Sl.val (D.ref 0), Sl.val (D.int n), Sl.own (ws.map .str), Sl.val x, Sl.val (.int k), x5, x6, x7] (tp l' R)) ?_ ?_
    · walk_at "w1"
      refine takeN_wp (m := 3) (by decide) fun v l1 hv => ?_
      walk_at "w1"
      exact ⟨1 + v, l1, by omega, by omega, by simp⟩
    rintro _ ⟨k, l2, hk0, hk, rfl⟩
    walk_at "w1"
    rw [w_seq]
    refine wp_mono (Q := fun (o : Out) => ∃ (k : Nat) (l' : List Int), 0 < k ∧ k ≤ 30 ∧ o = .nx [Sl.val (D.ref 0), Sl.val (D.int n), Sl.own (ws.map .str), Sl.val x, Sl.val (.int k), x5, x6, x7] (tp l' R)) ?_ ?_
    · walk_at "w1"
      refine takeN_wp (m := 9) (by decide) fun v l1 hv => ?_
      walk_at "w1"
      split
      · refine takeN_wp (m := 20) (by decide) fun v2 l3 hv2 => ?_
        walk_at "w1"
        exact ⟨k + 3 + v2, l3, by omega, by omega, by simp⟩
      · exact ⟨k, l1, hk0, by omega, rfl⟩
    rintro _ ⟨k, l2, hk0, hk, rfl⟩
    walk_at "w1"
    rw [w_seq]
    refine wp_mono (Q := fun (o : Out) => ∃ (w : Str) (x6 : Sl) (l' : List Int), isW w = true ∧ w.length ≤ 30 ∧ o = .nx [Sl.val (D.ref 0), Sl.val (D.int n), Sl.own (ws.map .str), Sl.val x, Sl.val (.int k), Sl.val (.str w), x6, x7] (tp l' R)) ?_ ?_
    · walk_at "w1"
      refine ⟨by omega, ?_⟩
      rw [Int.toNat_natCast]
      refine word_letters (by omega) fun ys l' h3 h4 => ?_
      obtain ⟨h5, h6⟩ := joined hk0 h3 h4
      refine wp_ok (strsOf_map ys) ⟨?_, _, _, _, h5, by omega, rfl⟩
      rw [join_len] at h6
      rw [h6, show ("" : Str).length = 0 from rfl]
      omega
    rintro _ ⟨w, y6, l2, hw1, hw2, rfl⟩
    walk_at "w1"
    rw [w_seq]
    refine wp_mono (Q := fun (o : Out) => ∃ (w : Str) (x6 : Sl) (l' : List Int), isW w = true ∧ w.length ≤ 30 + ws.length + 1 ∧ o = .nx [Sl.val (D.ref 0), Sl.val (D.int n), Sl.own (ws.map .str), Sl.val x, Sl.val (.int k), Sl.val (.str w), x6, x7] (tp l' R)) ?_ ?_
    · walk_at "w1"
      split
      · rename_i hp
        refine takeN_wp (m := 6) (by decide) fun v l1 hv => ?_
        walk_at "w1"
        refine ⟨chk_tp hR, ?_⟩
        split
        · refine pick_wp (by simpa using hp) fun d hd l3 => ?_
          obtain ⟨u, hu, rfl⟩ := List.mem_map.1 hd
          refine takeN_wp (m := 26) (by decide) fun v2 l4 hv2 => ?_
          obtain ⟨c, e, hc⟩ := letter_at hv2
          refine wp_ok e ?_
          walk_at "w1"
          have h3 := h2.len u hu
          have h4 := len_let c
          refine ⟨by simp [sizeLine]; omega, by rw [chk_tp hR]; rfl, _, _, _, isW_app (h2.w u hu) (isW_iff.1 (isW_let hc)).2, ?_, rfl⟩
          rw [app_len]
          omega
        · exact ⟨w, _, _, hw1, by omega, rfl⟩
      · exact ⟨chk_tp hR, w, _, _, hw1, by omega, rfl⟩
    rintro _ ⟨w, y6, l2, hw1, hw2, rfl⟩
    walk_at "w1"
    rw [w_seq]
    refine wp_mono (Q := fun (o : Out) => ∃ (w : Str) (x6 x7 : Sl) (l' : List Int), isW w = true ∧ w.length ≤ 30 + ws.length + 1 ∧ w ∉ ws ∧ o = .nx [Sl.val (D.ref 0), Sl.val (D.int n), Sl.own (ws.map .str), Sl.val x, Sl.val (.int k), Sl.val (.str w), x6, x7] (tp l' R)) ?_ ?_
    · walk_at "w1"
      rw [any_str]
      walk_at "w1"
      refine ⟨⟨ok_str _, oks_map (fun s => ok_str s) ws⟩, chk_tp hR, ?_⟩
      split
      · rename_i hmem
        refine wp_ok (comp_map (fun d => match d with | .str s => .int s.length | d => d) _ _ ?_ ?_) ?_
        · intro d hd
          obtain ⟨u, hu, rfl⟩ := List.mem_map.1 hd
          refine ⟨_, rfl, rfl, ?_⟩
          apply wp_eq
          walk_at "wp"
          have := h2.len u hu
          unfold sizeLine
          omega
        · simp [sizeLine]; omega
        · obtain ⟨m, e, hm, hall, u, hu, hum⟩ := max_len (List.ne_nil_of_mem hmem) h2.len
          have e0 : [] ++ List.map (fun d => match d with | .str s => .int s.length | d => d) (List.map D.str ws) = (ws.map fun s => (s.length : Int)).map D.int := by simp
          rw [e0]
          refine wp_ok (intsOf_map _) (wp_ok e ?_)
          have e1 : (1 + (m : Int)).toNat = 1 + m := by omega
          have e2 : (("z" : Str).length) = 1 := rfl
          rw [e1, e2]
          refine ⟨⟨by have := isW_len (h2.w u hu); omega, by omega, by decide, by simp [sizeLine]; omega⟩, by rw [chk_tp hR]; rfl, _, _, _, _, isW_rep (by omega), ?_, ?_, rfl⟩
          · rw [rep_len]
            omega
          · intro hin
            have := hall _ hin
            rw [rep_len] at this
            omega
      · rename_i hni
        exact ⟨w, _, _, _, hw1, hw2, by simpa using hni, rfl⟩
    rintro _ ⟨w, y6, y7, l2, hw1, hw2, hw3, rfl⟩
    walk_at "w1"
    refine ⟨by simp [sizeLine]; omega, ws ++ [w], l2, _, _, _, _, _, by simp; omega, ?_, rfl, by rw [List.map_append]; rfl⟩
    rw [List.length_append, List.length_singleton, ← Nat.add_assoc]
    exact h2.snoc hw1 hw2 hw3
  · rintro _ _ ⟨ws, l', x3, x4, x5, x6, x7, h1, h2, rfl, rfl⟩
    walk_at "w1"
    simp only [List.length_nil, Nat.zero_add] at h1
    subst h1
    exact h ws l' rfl h2
theorem same_bl {b : Bool} {S : Sh} : m_law_same 12 [.bl b, .bl b] S = some (.bl true, S) := same_eq 11 _ S rfl
theorem bls_map {α : Type} (f : α → Bool) : ∀ (xs : List α), blsOf (xs.map fun x => .bl (f x)) = some (xs.map f)
  | [] => rfl
  | x :: xs => by
    rw [List.map_cons, blsOf, bls_map f xs]
    rfl
theorem is_word_eq {s : Str} {S : Sh} (hs : s.length ≤ sizeLine) : m_is_word [.str s] S = some (.bl (isW s), S) := by
  apply wp_eq
  unfold m_is_word b_is_word
  walk_at "wp"
  unfold isW
  cases he : (s == ("" : Str))
  · walk_at "wp"
    refine wp_ok (comp_map (fun d => match d with | .str z => .bl (strIn z lets) | d => d) _ _ ?_ ?_) ?_
    · intro d hd
      obtain ⟨c, hc, rfl⟩ := List.mem_map.1 hd
      refine ⟨_, rfl, rfl, ?_⟩
      rfl
    · have : s.cps.toList.length = s.length := by simp [Str.length]
      simp only [List.length_nil, List.length_map]
      omega
    · simp only [List.nil_append, List.map_map]
      refine wp_ok (bls_map isLet s.cps.toList) ?_
      simp [List.all_map]
  · walk_at "wp"
theorem law_is_word_eq {s : Str} {S : Sh} (hs : s.length ≤ sizeLine) : m_law_is_word [.str s] S = some (.bl (isW s), S) := by
  apply wp_eq
  unfold m_law_is_word b_law_is_word
  walk_at "wp"
  unfold isW
  cases he : (s == ("" : Str))
  · walk_at "wp"
    refine wp_ok (comp_filter id (fun d => match d with | .str z => !strIn z lets | d => false) _ _ ?_ ?_) ?_
    · intro d hd
      obtain ⟨c, hc, rfl⟩ := List.mem_map.1 hd
      refine ⟨_, rfl, ?_, fun _ => rfl⟩
      rfl
    · have : s.cps.toList.length = s.length := by simp [Str.length]
      simp only [List.length_nil, List.length_map]
      omega
    · simp only [List.nil_append, List.map_id]
      have e : ((s.cps.toList.map fun c => D.str ⟨#[c]⟩).filter fun d => match d with | .str z => !strIn z lets | d => false) = (s.cps.toList.filter fun c => !isLet c).map fun c => D.str ⟨#[c]⟩ := by
        rw [List.filter_map]
        rfl
      rw [e, List.length_map]
      have e2 : decide ((((s.cps.toList.filter fun c => !isLet c).length : Nat) : Int) = 0) = s.cps.toList.all isLet := by
        cases ha : s.cps.toList.all isLet
        · rw [decide_eq_false_iff_not]
          intro h
          have h2 : (s.cps.toList.filter fun c => !isLet c) = [] := List.length_eq_zero_iff.1 (by omega)
          rw [List.filter_eq_nil_iff] at h2
          have : s.cps.toList.all isLet = true := List.all_eq_true.2 fun c hc => by simpa using h2 c hc
          rw [ha] at this
          cases this
        · have h2 : (s.cps.toList.filter fun c => !isLet c) = [] := by
            rw [List.filter_eq_nil_iff]
            intro c hc
            have := List.all_eq_true.1 ha c hc
            simp [this]
          rw [h2]
          rfl
      rw [e2]
  · walk_at "wp"
theorem any_schemaS_wp {l : List Int} {R : Sh} {ws : List Str} {Q : D × Sh → Prop} (hw : ws.length ≤ 1000) (hnd : ws.Nodup) (h : ∀ (s : Sch) (l' : List Int), s.length ≤ 20 → (∀ p ∈ s, p.1 ∈ ws ∧ p.2 ≤ 8) → (s.map (·.1)).Nodup → ((s.map (·.1)).Pairwise fun a b => strLe a b = true) → Q (schD s, tp l' R)) : wp (m_law_any_schema [.ref 0, .lst (ws.map .str)] (tp l R)) Q := by
  unfold m_law_any_schema b_law_any_schema
  walk_at "w1"
  rw [w_seq]
  refine wp_mono (Q := fun (o : Out) => ∃ (k : Nat) (l' : List Int), k ≤ 20 ∧ o = .nx [Sl.val (D.ref 0), Sl.val (.lst (ws.map .str)), Sl.val (.int k), .no, .no, .no] (tp l' R)) ?_ ?_
  · walk_at "w1"
    refine takeN_wp (m := 4) (by decide) fun v l1 hv => ?_
    walk_at "w1"
    exact ⟨1 + v, l1, by omega, by simp⟩
  rintro _ ⟨k, l1, hk, rfl⟩
  walk_at "w1"
  rw [w_seq]
  refine wp_mono (Q := fun (o : Out) => ∃ (k : Nat) (l' : List Int), k ≤ 20 ∧ o = .nx [Sl.val (D.ref 0), Sl.val (.lst (ws.map .str)), Sl.val (.int k), .no, .no, .no] (tp l' R)) ?_ ?_
  · walk_at "w1"
    refine takeN_wp (m := 6) (by decide) fun v l1 hv => ?_
    walk_at "w1"
    split
    · refine takeN_wp (m := 21) (by decide) fun v l2 hv => ?_
      walk_at "w1"
      exact ⟨v, l2, by omega, rfl⟩
    · exact ⟨k, l1, hk, rfl⟩
  rintro _ ⟨k, l1, hk, rfl⟩
  walk_at "w1"
  rw [w_seq]
  walk_at "w1"
  refine ⟨by decide, ?_⟩
  rw [w_seq]
  walk_at "w1"
  rw [cut_to, ← List.map_take, sort_str]
  have hlen : (ws.take k).length ≤ k := List.length_take_le _ _
  refine ⟨str_keys (Nat.le_trans hlen (by simp [sizeLine]; omega)), ?_⟩
  have hsn : ((ws.take k).mergeSort strLe).Nodup := ((List.mergeSort_perm _ _).nodup_iff).2 (hnd.sublist (List.take_sublist _ _))
  have hss : ((ws.take k).mergeSort strLe).Pairwise fun a b => strLe a b = true := List.pairwise_mergeSort strLe_trans strLe_tot _
  have hsl : ((ws.take k).mergeSort strLe).length ≤ 20 := by rw [(List.mergeSort_perm _ _).length_eq]; omega
  have hsm : ∀ y ∈ (ws.take k).mergeSort strLe, y ∈ ws := fun y hy => List.mem_of_mem_take (sort_mem.1 hy)
  generalize (ws.take k).mergeSort strLe = srt at *
  refine loop_n (fun xs σ S => ∃ (ys : List Str) (s : Sch) (l' : List Int) (x4 x5 : Sl), xs = ys.map .str ∧ ys.length + s.length ≤ 20 ∧ (∀ y ∈ ys, y ∈ ws) ∧ (∀ p ∈ s, p.1 ∈ ws ∧ p.2 ≤ 8) ∧ s.map (·.1) ++ ys = srt ∧ S = tp l' R ∧
      σ = [Sl.val (D.ref 0), Sl.val (D.lst (ws.map .str)), Sl.val (.int k), Sl.own (s.map colD), x4, x5]) _ _ _ _ ⟨_, [], l1, .no, .no, rfl, by simpa using hsl, hsm, by simp, by simp, rfl, rfl⟩ ?_ ?_
  · rintro x r _ _ ⟨ys, s, l', x4, x5, h1, h2, h3, h4, h5, rfl, rfl⟩
    cases ys with
    | nil => cases h1
    | cons y ys =>
      rw [List.map_cons, List.cons.injEq] at h1
      obtain ⟨rfl, rfl⟩ := h1
      simp only [List.length_cons] at h2
      walk_at "w1"
      rw [w_seq]
      refine wp_mono (Q := fun (o : Out) => ∃ (c : Nat) (l' : List Int), c ≤ 8 ∧ o = .nx [Sl.val (D.ref 0), Sl.val (D.lst (ws.map .str)), Sl.val (.int k), Sl.own (s.map colD), Sl.val (.str y), Sl.val (.int c)] (tp l' R)) ?_ ?_
      · walk_at "w1"
        refine ⟨by decide, takeN_wp (m := 6) (by decide) fun v l2 hv => ?_⟩
        walk_at "w1"
        have hv' : v = 0 ∨ v = 1 ∨ v = 2 ∨ v = 3 ∨ v = 4 ∨ v = 5 := by omega
        rcases hv' with rfl | rfl | rfl | rfl | rfl | rfl
        · exact wp_ok rfl ⟨2, l2, by decide, rfl⟩
        · exact wp_ok rfl ⟨1, l2, by decide, rfl⟩
        · exact wp_ok rfl ⟨3, l2, by decide, rfl⟩
        · exact wp_ok rfl ⟨0, l2, by decide, rfl⟩
        · exact wp_ok rfl ⟨2, l2, by decide, rfl⟩
        · exact wp_ok rfl ⟨1, l2, by decide, rfl⟩
      rintro _ ⟨c, l2, hc, rfl⟩
      walk_at "w1"
      rw [w_seq]
      refine wp_mono (Q := fun (o : Out) => ∃ (c : Nat) (l' : List Int), c ≤ 8 ∧ o = .nx [Sl.val (D.ref 0), Sl.val (D.lst (ws.map .str)), Sl.val (.int k), Sl.own (s.map colD), Sl.val (.str y), Sl.val (.int c)] (tp l' R)) ?_ ?_
      · walk_at "w1"
        refine takeN_wp (m := 6) (by decide) fun v l3 hv => ?_
        walk_at "w1"
        split
        · refine takeN_wp (m := 9) (by decide) fun v l4 hv => ?_
          walk_at "w1"
          exact ⟨v, l4, by omega, rfl⟩
        · exact ⟨c, l3, hc, rfl⟩
      rintro _ ⟨c, l2, hc, rfl⟩
      walk_at "w1"
      refine ⟨by decide, by simp [sizeLine]; omega, ys, s ++ [(y, c)], l2, _, _, rfl, by simp; omega, fun z hz => h3 z (by simp [hz]), fun p hp => ?_, by rw [← h5]; simp, rfl, by rw [List.map_append]; rfl⟩
      rcases List.mem_append.1 hp with hp | hp
      · exact h4 p hp
      · rw [List.mem_singleton.1 hp]
        exact ⟨h3 y (by simp), hc⟩
  · rintro _ _ ⟨ys, s, l', x4, x5, h1, h2, h3, h4, h5, rfl, rfl⟩
    walk_at "w1"
    obtain rfl : ys = [] := by simpa using h1.symm
    rw [List.append_nil] at h5
    exact h s l' (by simpa using h2) h4 (h5 ▸ hsn) (h5 ▸ hss)
theorem cutS_to (z : Str) (k : Nat) (hk : k ≤ z.length) : (cutS z none (some (k : Int))).length = k := by
  unfold cutS
  rw [HT.sIx_none, HT.sIx_nat, ← len_cps, List.toList_toArray, List.length_take, List.length_drop, len_cps]
  omega
theorem cutS_from (z : Str) (k : Nat) (hk : k ≤ z.length) : (cutS z (some (k : Int)) none).length = z.length - k := by
  unfold cutS
  rw [HT.sIx_none, HT.sIx_nat, ← len_cps, List.toList_toArray, List.length_take, List.length_drop, len_cps]
  omega
theorem strange_wp {l : List Int} {R : Sh} {w : Str} {Q : D × Sh → Prop} (hw : w.length ≤ 100000) (h : ∀ (s : Str) (l' : List Int), s.length ≤ w.length + 1 → Q (.str s, tp l' R)) : wp (m_law_strange [.ref 0, .str w] (tp l R)) Q := by
  unfold m_law_strange b_law_strange
  walk_at "w1"
  rw [w_seq]
  walk_at "w1"
  refine ⟨by decide, pick_wp (by decide) fun d hd l1 => ?_⟩
  have hs : ∃ z : Str, d = .str z ∧ z.length = 1 := by
    simp only [List.mem_cons, List.not_mem_nil, or_false] at hd
    rcases hd with rfl | rfl | rfl | rfl | rfl | rfl | rfl | rfl | rfl | rfl | rfl | rfl | rfl | rfl | rfl <;> exact ⟨_, rfl, rfl⟩
  obtain ⟨z, rfl, hz⟩ := hs
  walk_at "wp"
  rw [show ((w.length : Nat) : Int) + 1 = ((w.length + 1 : Nat) : Int) by simp]
  refine ⟨by unfold sizeLine; omega, takeN_wp (by omega) fun k l2 hk => ?_⟩
  walk_at "wp"
  have e1 := cutS_to w k (by omega)
  have e2 := cutS_from w k (by omega)
  refine ⟨by unfold sizeLine; omega, by unfold sizeLine; omega, by unfold sizeLine; omega, by rw [app_len]; unfold sizeLine; omega, by decide, takeN_wp (m := 6) (by decide) fun v l3 hv => ?_⟩
  walk_at "wp"
  by_cases h0 : 0 < (v : Int)
  · rw [if_pos h0]
    exact wp_ok (a := .str _) rfl (h _ l3 (by rw [app_len, app_len]; omega))
  · rw [if_neg h0]
    exact wp_ok (a := .str _) rfl (h _ l3 (Nat.zero_le _))
theorem rngO_cons (k : Nat) (j : Nat) : rngO k (j + 1) = .int k :: rngO (k + 1 : Nat) j := by
  unfold rngO
  rw [List.range_succ_eq_map, List.map_cons, List.map_map]
  rw [show (k : Int) + ((0 : Nat) : Int) = k by omega]
  refine congrArg _ (List.map_congr_left fun i _ => ?_)
  show D.int ((k : Int) + ((i + 1 : Nat) : Int)) = D.int (((k + 1 : Nat) : Int) + (i : Int))
  congr 1
  omega
abbrev TabI := List (Str × Int)
def colI (t : Str × Int) : D := .tup [.str t.1, .int t.2]
def tabI (ts : TabI) : D := .tup (ts.map colI)
def okT (t : Str × Int) : Bool := isW t.1 && (decide (0 ≤ t.2) && decide (t.2 ≤ 8))
def asc : List Str → Bool
  | [] => true
  | [_] => true
  | a :: b :: r => decide (a.cps.toList < b.cps.toList) && asc (b :: r)
def isSch (ts : TabI) : Bool := decide (ts.length ≤ 20) && (ts.all okT && asc (ts.map (·.1)))
theorem sch_colI (s : Sch) : schD s = tabI (s.map fun t => (t.1, (t.2 : Int))) := by
  unfold schD tabI
  rw [List.map_map]
  rfl
theorem asc_tail {a : Str} {r : List Str} (h : asc (a :: r) = true) : asc r = true := by
  cases r with
  | nil => rfl
  | cons b r =>
    rw [asc, Bool.and_eq_true] at h
    exact h.2
theorem asc_lt : ∀ {r : List Str} {a : Str}, asc (a :: r) = true → ∀ b ∈ r, a.cps.toList < b.cps.toList
  | [], _, _, b, hb => by cases hb
  | c :: r, a, h, b, hb => by
    rw [asc, Bool.and_eq_true, decide_eq_true_eq] at h
    rcases List.mem_cons.1 hb with rfl | hb
    · exact h.1
    · exact List.lt_trans h.1 (asc_lt h.2 b hb)
theorem strLe_lt {a b : Str} (h : a.cps.toList < b.cps.toList) : strLe a b = true := by
  unfold strLe
  rw [DL.ltD_str, decide_eq_false (List.lt_asymm h)]
  rfl
theorem asc_pair : ∀ {r : List Str}, asc r = true → r.Nodup ∧ r.Pairwise fun a b => strLe a b = true
  | [], _ => ⟨List.nodup_nil, List.Pairwise.nil⟩
  | a :: r, h => by
    obtain ⟨h1, h2⟩ := asc_pair (asc_tail h)
    have h3 := asc_lt h
    exact ⟨List.nodup_cons.2 ⟨fun m => List.lt_irrefl _ (h3 a m), h1⟩, List.pairwise_cons.2 ⟨fun b hb => strLe_lt (h3 b hb), h2⟩⟩
theorem lt_of_le {a b : Str} (h : strLe a b = true) (hn : a ≠ b) : a.cps.toList < b.cps.toList := by
  unfold strLe at h
  rw [DL.ltD_str] at h
  refine Decidable.byContradiction fun c => hn ?_
  have h2 : ¬ b.cps.toList < a.cps.toList := by simpa using h
  exact DL.str_ext (List.le_antisymm (List.not_lt.mp h2) (List.not_lt.mp c))
theorem asc_of : ∀ {r : List Str}, r.Nodup → (r.Pairwise fun a b => strLe a b = true) → asc r = true
  | [], _, _ => rfl
  | [_], _, _ => rfl
  | a :: b :: r, h1, h2 => by
    rw [List.nodup_cons] at h1
    rw [List.pairwise_cons] at h2
    rw [asc, Bool.and_eq_true, decide_eq_true_eq]
    exact ⟨lt_of_le (h2.1 b (by simp)) fun e => h1.1 (by rw [e]; simp), asc_of h1.2 h2.2⟩
theorem asc_us (r : List Str) : decide (r = usort r) = asc r := by
  rw [Bool.eq_iff_iff, decide_eq_true_eq]
  constructor
  · intro h
    rw [h]
    exact asc_of (us_nodup r) (us_sorted r)
  · intro h
    obtain ⟨h1, h2⟩ := asc_pair h
    exact us_one h1 (us_nodup r) h2 (us_sorted r) fun x => us_mem.symm
theorem asc_short {r : List Str} (h : r.length ≤ 1) : asc r = true := by
  match r, h with
  | [], _ => rfl
  | [_], _ => rfl
  | _ :: _ :: _, h => simp at h
theorem asc_drop {r : List Str} {k : Nat} (h : k + 1 < r.length) : asc (r.drop k) = (decide (r[k].cps.toList < r[k + 1].cps.toList) && asc (r.drop (k + 1))) := by
  rw [List.drop_eq_getElem_cons (show k < r.length by omega), List.drop_eq_getElem_cons h, asc]
theorem check_schema_eq {ts : TabI} {S : Sh} (hl : ts.length ≤ 1000) (hn : ∀ t ∈ ts, t.1.length ≤ 1000) : mX_check_schema [tabI ts] S = some (if isSch ts then .ok .non else .ex ⟨"NoSchema", []⟩, S) := by
  apply wp_eq
  unfold mX_check_schema bX_check_schema
  walk_at "w1"
  rw [w_seq]
  unfold tabI
  walk_at "w1"
  rw [List.length_map]
  by_cases h20 : ts.length ≤ 20
  · rw [if_neg (by omega)]
    rw [w_seq]
    walk_at "w1"
    have bad : isSch ts = false → (Rz.ex ⟨"NoSchema", []⟩, S) = (if isSch ts = true then Rz.ok .non else Rz.ex ⟨"NoSchema", []⟩, S) := fun h => by rw [h]; rfl
    have go : isSch ts = (ts.all okT && asc (ts.map (·.1))) := by
      unfold isSch
      rw [decide_eq_true h20, Bool.true_and]
    refine loop_e colI (fun ys σ S' => S' = S ∧ ∃ (x2 x3 : Sl), (∀ y ∈ ys, y ∈ ts) ∧ ts.all okT = ys.all okT ∧ σ = [.val (.tup (ts.map colI)), .no, x2, x3]) _ _ _ ⟨rfl, .no, .no, fun _ h => h, rfl, rfl⟩ ?_ ?_
    · rintro y ys _ S1 ⟨rfl, x2, x3, g1, g2, rfl⟩
      refine ⟨_, rfl, ?_⟩
      have hy := hn y (g1 y (by simp))
      rw [List.all_cons] at g2
      walk_at "w1"
      refine wp_ok (is_word_eq (by unfold sizeLine; omega)) ?_
      have bad2 : okT y = false → (Rz.ex ⟨"NoSchema", []⟩, S1) = (if isSch ts = true then Rz.ok .non else Rz.ex ⟨"NoSchema", []⟩, S1) := fun h => bad (by rw [go, g2, h]; rfl)
      cases hw : isW y.1 with
      | false =>
        walk_at "w1"
        exact bad2 (by unfold okT; rw [hw]; rfl)
      | true =>
        walk_at "w1"
        by_cases c0 : y.2 < 0
        · rw [if_pos c0]
          exact bad2 (by unfold okT; rw [decide_eq_false (show ¬ 0 ≤ y.2 by omega)]; simp)
        · rw [if_neg c0]
          by_cases c8 : 8 < y.2
          · rw [if_pos c8]
            exact bad2 (by unfold okT; rw [decide_eq_false (show ¬ y.2 ≤ 8 by omega)]; simp)
          · rw [if_neg c8]
            refine ⟨_, _, fun z hz => g1 z (by simp [hz]), ?_, rfl⟩
            rw [g2]
            unfold okT
            rw [hw, decide_eq_true (show 0 ≤ y.2 by omega), decide_eq_true (show y.2 ≤ 8 by omega)]
            rfl
    · rintro _ S1 ⟨rfl, x2, x3, g1, g2, rfl⟩
      rw [show ([] : TabI).all okT = true from rfl] at g2
      rw [g2, Bool.true_and] at go
      walk_at "w1"
      refine ⟨by rw [List.length_map]; omega, ?_⟩
      refine loop_n (fun xs σ S' => S' = S1 ∧ ∃ (j k : Nat) (x1 : Sl), xs = rngO (k : Nat) j ∧ (0 < j → k + j + 1 = ts.length) ∧ (j = 0 → ts.length ≤ k + 1) ∧ asc (ts.map (·.1)) = asc ((ts.map (·.1)).drop k) ∧ σ = [.val (.tup (ts.map colI)), x1, x2, x3]) _ _ _ _ ⟨rfl, (((ts.map colI).length : Int) - 1).toNat, 0, .no, rfl, by rw [List.length_map]; omega, by rw [List.length_map]; omega, rfl, rfl⟩ ?_ ?_
      · rintro x r _ _ ⟨rfl, j, k, x1, e1, e2, e3, e4, rfl⟩
        cases j with
        | zero => cases e1
        | succ j =>
          rw [rngO_cons, List.cons.injEq] at e1
          obtain ⟨rfl, rfl⟩ := e1
          have hk : k + 1 < ts.length := by have := e2 (by omega); omega
          walk_at "w1"
          rw [List.getElem?_map, List.getElem?_eq_getElem (show k < ts.length by omega), Option.map_some, wp_some]
          rw [show ((k : Int) + 1) = ((k + 1 : Nat) : Int) by simp, DL.atI_nat, List.getElem?_map, List.getElem?_eq_getElem hk, Option.map_some]
          unfold colI
          walk_at "w1"
          rw [asc_drop (by simpa using hk)] at e4
          simp only [List.getElem_map] at e4
          refine wp_ok rfl ?_
          walk_at "w1"
          by_cases c : ts[k].1.cps.toList < ts[k + 1].1.cps.toList
          · rw [decide_eq_true c] at e4
            rw [if_neg (fun h => h c)]
            exact ⟨j, k + 1, _, rfl, by omega, by omega, by rw [e4]; rfl, rfl⟩
          · rw [decide_eq_false c] at e4
            rw [if_pos c]
            exact bad (by rw [go, e4]; rfl)
      · rintro _ _ ⟨rfl, j, k, x1, e1, e2, e3, e4, rfl⟩
        have hj : j = 0 := by
          cases j with
          | zero => rfl
          | succ j => rw [rngO_cons] at e1; cases e1
        have : asc ((ts.map (·.1)).drop k) = true := asc_short (by simp; omega)
        walk_at "w1"
        rw [go, e4, this]
        rfl
  · rw [if_pos (by omega)]
    walk_at "w1"
    rw [if_neg]
    unfold isSch
    rw [decide_eq_false h20]
    simp
theorem law_is_schema_eq {ts : TabI} {S : Sh} (hl : ts.length ≤ 1000) (hn : ∀ t ∈ ts, t.1.length ≤ 1000) : m_law_is_schema [tabI ts] S = some (.bl (isSch ts), S) := by
  apply wp_eq
  unfold m_law_is_schema b_law_is_schema
  unfold tabI
  walk_at "w1"
  rw [w_seq]
  walk_at "w1"
  refine comp_enc (f := colI) (g := fun t => .str t.1) (fun t ht => ⟨_, rfl, rfl, wp_eq ?_⟩) (by unfold sizeLine; omega) ?_
  · unfold colI
    walk_at "w1"
  rw [show (ts.map fun t => D.str t.1) = (ts.map (·.1)).map .str by rw [List.map_map]; rfl]
  rw [w_seq]
  walk_at "w1"
  rw [List.length_map]
  by_cases h20 : ts.length ≤ 20
  · rw [if_neg (by omega)]
    have go : isSch ts = (ts.all okT && asc (ts.map (·.1))) := by
      unfold isSch
      rw [decide_eq_true h20, Bool.true_and]
    rw [o_setLs]
    refine ⟨by rw [List.length_map]; omega, ?_⟩
    rw [sort_us, o_ne]
    refine ⟨⟨by rw [ok_lst]; exact oks_strs _, by rw [ok_lst]; exact oks_strs _⟩, ?_⟩
    rw [eqD_lst, eqDs_map (f := D.str) (fun _ _ => eqD_str), asc_us]
    walk_at "w1"
    cases ha : asc (ts.map (·.1)) with
    | false =>
      rw [ha] at go
      walk_at "w1"
      rw [go]
      simp
    | true =>
      rw [ha, Bool.and_true] at go
      walk_at "w1"
      rw [w_seq]
      walk_at "w1"
      refine loop_e colI (fun ys σ S' => S' = S ∧ ∃ (x2 : Sl), (∀ y ∈ ys, y ∈ ts) ∧ ts.all okT = ys.all okT ∧ σ = [.val (.tup (ts.map colI)), .val (.lst ((ts.map (·.1)).map .str)), x2]) _ _ _ ⟨rfl, .no, fun _ h => h, rfl, rfl⟩ ?_ ?_
      · rintro y ys _ S1 ⟨rfl, x2, g1, g2, rfl⟩
        refine ⟨_, rfl, ?_⟩
        have hy := hn y (g1 y (by simp))
        rw [List.all_cons] at g2
        unfold colI
        walk_at "w1"
        refine wp_ok (law_is_word_eq (by unfold sizeLine; omega)) ?_
        have bad2 : okT y = false → (D.bl false, S1) = (D.bl (isSch ts), S1) := fun h => by rw [go, g2, h]; rfl
        cases hw : isW y.1 with
        | false =>
          walk_at "w1"
          exact bad2 (by unfold okT; rw [hw]; rfl)
        | true =>
          walk_at "w1"
          by_cases c0 : y.2 < 0
          · rw [if_pos c0]
            exact bad2 (by unfold okT; rw [decide_eq_false (show ¬ 0 ≤ y.2 by omega)]; simp)
          · rw [if_neg c0]
            by_cases c8 : 8 < y.2
            · rw [if_pos c8]
              exact bad2 (by unfold okT; rw [decide_eq_false (show ¬ y.2 ≤ 8 by omega)]; simp)
            · rw [if_neg c8]
              refine ⟨_, fun z hz => g1 z (by simp [hz]), ?_, rfl⟩
              rw [g2]
              unfold okT
              rw [hw, decide_eq_true (show 0 ≤ y.2 by omega), decide_eq_true (show y.2 ≤ 8 by omega)]
              rfl
      · rintro _ S1 ⟨rfl, x2, g1, g2, rfl⟩
        walk_at "w1"
        rw [go, g2]
        rfl
  · rw [if_pos (by omega)]
    walk_at "w1"
    unfold isSch
    rw [decide_eq_false h20]
    rfl
theorem law_refused_eq {ts : TabI} {S : Sh} (hl : ts.length ≤ 1000) (hn : ∀ t ∈ ts, t.1.length ≤ 1000) : m_law_refused [tabI ts] S = some (.bl (!isSch ts), S) := by
  apply wp_eq
  unfold m_law_refused b_law_refused
  walk_at "w1"
  rw [w_seq]
  walk_at "w1"
  refine wp_ok (check_schema_eq hl hn) ?_
  cases isSch ts with
  | true =>
    walk_at "w1"
    rw [w_seq]
    walk_at "w1"
  | false =>
    walk_at "w1"
    decide
structure TabOk (at_ : Nat) (ts : TabI) : Prop where
  l : ts.length ≤ 30
  a : at_ < ts.length
  n : ∀ t ∈ ts, t.1.length ≤ 300
theorem TabOk.set {k : Nat} {ts : TabI} (h : TabOk k ts) {t : Str × Int} (ht : t.1.length ≤ 300) (i : Nat) : TabOk k (ts.set i t) :=
  ⟨by simpa using h.l, by simpa using h.a, fun x hx => by
    rcases List.mem_or_eq_of_mem_set hx with hx | rfl
    · exact h.n x hx
    · exact ht⟩
theorem setI {ts : TabI} {i : Nat} {t : Str × Int} : (ts.map colI).set i (colI t) = (ts.set i t).map colI := by rw [List.map_set]
section
variable {l : List Int} {R : Sh} {cs : List Int} {ts0 : TabI} {ws : List Str} {Q : D × Sh → Prop}
theorem changed_wp (hR : pureSh R = true) (h0 : 0 < ts0.length) (hl : ts0.length ≤ 20) (hn : ∀ t ∈ ts0, t.1.length ≤ 200) (hw : ws.length ≤ 30) (hwl : ∀ s ∈ ws, s.length ≤ 200) (h : ∀ (ts : TabI) (l' : List Int), ts.length ≤ 200 → (∀ t ∈ ts, t.1.length ≤ 300) → Q (tabI ts, tp l' R)) : wp (m_law_changed [.ref 0, .rol (cs.map .int), tabI ts0, .lst (ws.map .str)] (tp l R)) Q := by
  unfold m_law_changed b_law_changed
  unfold tabI
  walk_at "w1"
  rw [w_seq]
  walk_at "w1"
  rw [w_seq]
  walk_at "w1"
  refine takeN_wp (m := 7) (by decide) fun kind l1 hk => ?_
  rw [w_seq]
  walk_at "w1"
  rw [List.length_map]
  refine takeN_wp h0 fun at_ l2 ha => ⟨by rw [chk_tp hR]; rfl, ?_⟩
  have e0 : atI (ts0.map colI) (at_ : Int) = some (colI ts0[at_]) := by
    rw [DL.atI_nat, List.getElem?_map, List.getElem?_eq_getElem ha]
    rfl
  have hnm := hn _ (List.getElem_mem ha)
  generalize ts0[at_] = t0 at e0 hnm
  rw [w_seq]
  walk_at "w1"
  rw [← DL.atI_nat, e0, wp_some]
  unfold colI
  walk_at "w1"
  refine ⟨by rw [chk_tp hR]; rfl, ?_⟩
  rw [w_seq]
  walk_at "w1"
  rw [← DL.atI_nat, show (fun t : Str × Int => D.tup [.str t.1, .int t.2]) = colI from rfl, e0, wp_some]
  unfold colI
  walk_at "w1"
  refine ⟨by rw [chk_tp hR]; rfl, ?_⟩
  rw [show (fun t : Str × Int => D.tup [.str t.1, .int t.2]) = colI from rfl]
  let st (ts : TabI) (x9 x10 x11 : Sl) : Env2 := [Sl.val (.ref 0), Sl.val (.rol (cs.map .int)), Sl.val (.tup (ts0.map colI)), Sl.val (.lst (ws.map .str)), Sl.own (ts.map colI), Sl.val (.int kind), Sl.val (.int at_), Sl.val (.str t0.1), Sl.val (.int t0.2), x9, x10, x11, .no, .no]
  have ch : ∀ (l : List Int), chk [4] (tp l R) = true := fun l => chk_tp hR
  have T0 : TabOk at_ ts0 := ⟨by omega, ha, fun t ht => by have := hn t ht; omega⟩
  -- kind 0
  rw [w_seq]
  refine wp_mono (Q := fun (o : Out) => ∃ (ts : TabI) (x9 x10 x11 : Sl) (l' : List Int), TabOk at_ ts ∧ o = .nx (st ts x9 x10 x11) (tp l' R)) ?_ ?_
  · walk_at "w1"
    split
    · refine strange_wp (by omega) fun s l3 hs => ?_
      walk_at "w1"
      refine ⟨by decide, by simp [pureD, pureDs], ?_⟩
      rw [o_ixN (by simpa using ha)]
      rw [show D.tup [.str s, .int t0.2] = colI (s, t0.2) from rfl, setI]
      exact ⟨_, _, _, _, l3, T0.set (by show s.length ≤ 300; omega) _, rfl⟩
    · exact ⟨ts0, _, _, _, l2, T0, rfl⟩
  rintro _ ⟨ts1, x9, x10, x11, l3, T1, rfl⟩
  walk_at "w1"
  -- kind 1
  rw [w_seq]
  refine wp_mono (Q := fun (o : Out) => ∃ (ts : TabI) (x9 x10 x11 : Sl) (l' : List Int), TabOk at_ ts ∧ o = .nx (st ts x9 x10 x11) (tp l' R)) ?_ ?_
  · show wp _ _
    simp only [st]
    walk_at "w1"
    split
    · rw [w_seq]
      walk_at "w1"
      refine size_rol fun v l4 g1 g2 => ?_
      refine wp_ok rfl ?_
      refine size_rol fun v2 l5 g3 g4 => ?_
      refine ⟨by decide, ?_⟩
      refine pick_wp (Nat.succ_pos _) fun d hd l6 => ?_
      have hi : ∃ i : Int, d = .int i := by
        simp only [List.mem_cons, List.not_mem_nil, or_false] at hd
        rcases hd with rfl | rfl | rfl | rfl | rfl <;> exact ⟨_, rfl⟩
      obtain ⟨i, rfl⟩ := hi
      refine ⟨by decide, by simp [pureD, pureDs], ?_⟩
      rw [o_ixN (by simpa using T1.a)]
      rw [show D.tup [.str t0.1, .int i] = colI (t0.1, i) from rfl, setI]
      exact ⟨_, _, _, _, l6, T1.set (by show t0.1.length ≤ 300; omega) _, rfl⟩
    · exact ⟨ts1, _, _, _, l3, T1, rfl⟩
  rintro _ ⟨ts2, x9, x10, x11, l4, T2, rfl⟩
  simp only [st]
  walk_at "w1"
  -- kind 2
  rw [w_seq]
  refine wp_mono (Q := fun (o : Out) => ∃ (ts : TabI) (x9 x10 x11 : Sl) (l' : List Int), TabOk at_ ts ∧ o = .nx (st ts x9 x10 x11) (tp l' R)) ?_ ?_
  · simp only [st]
    walk_at "w1"
    split
    · rw [w_seq]
      walk_at "w1"
      rw [List.length_map]
      refine takeN_wp (show 0 < ts2.length from Nat.lt_of_le_of_lt (Nat.zero_le _) T2.a) fun o l5 ho => ⟨by rw [ch]; rfl, ?_⟩
      rw [w_seq]
      walk_at "w1"
      rw [List.getElem?_map, List.getElem?_eq_getElem ho, Option.map_some, wp_some]
      refine ⟨by rw [ch]; simp [colI, pureD, pureDs], ?_⟩
      rw [o_ixN (by simpa using T2.a), setI]
      walk_at "w1"
      refine ⟨by decide, by simp [pureD, pureDs], ?_⟩
      have T3 := T2.set (T2.n _ (List.getElem_mem ho)) at_
      rw [o_ixN (by simpa using ho)]
      rw [show D.tup [.str t0.1, .int t0.2] = colI (t0.1, t0.2) from rfl, setI]
      exact ⟨_, _, _, _, l5, T3.set (by show t0.1.length ≤ 300; omega) _, rfl⟩
    · exact ⟨ts2, _, _, _, l4, T2, rfl⟩
  rintro _ ⟨ts3, x9, x10, x11, l5, T3, rfl⟩
  simp only [st]
  walk_at "w1"
  -- kind 3
  rw [w_seq]
  refine wp_mono (Q := fun (o : Out) => ∃ (ts : TabI) (x9 x10 x11 : Sl) (l' : List Int), ts.length ≤ 31 ∧ at_ < ts.length ∧ (∀ t ∈ ts, t.1.length ≤ 300) ∧ o = .nx (st ts x9 x10 x11) (tp l' R)) ?_ ?_
  · simp only [st]
    walk_at "w1"
    split
    · rw [List.length_map, show ((ts3.length : Nat) : Int) + 1 = ((ts3.length + 1 : Nat) : Int) by simp]
      refine takeN_wp (by omega) fun v l6 hv => ?_
      refine takeN_wp (m := 3) (by decide) fun c l7 hc => ?_
      walk_at "w1"
      have := T3.l
      refine ⟨by decide, by rw [ch]; simp [pureD, pureDs], ⟨by simp [sizeLine]; omega, by omega, by omega⟩, ?_⟩
      refine ⟨ts3.take v ++ [(t0.1, (c : Int))] ++ ts3.drop v, x9, x10, x11, l7, ?_, ?_, fun t ht => ?_, by simp [List.map_take, List.map_drop, colI]⟩
      · simp; omega
      · have := T3.a
        simp; omega
      · simp only [List.mem_append, List.mem_singleton] at ht
        rcases ht with (ht | rfl) | ht
        · exact T3.n t (List.mem_of_mem_take ht)
        · show t0.1.length ≤ 300; omega
        · exact T3.n t (List.mem_of_mem_drop ht)
    · exact ⟨ts3, _, _, _, l5, by have := T3.l; omega, T3.a, T3.n, rfl⟩
  rintro _ ⟨ts4, x9, x10, x11, l6, T4l, T4a, T4n, rfl⟩
  simp only [st]
  walk_at "w1"
  -- kind 4
  rw [w_seq]
  refine wp_mono (Q := fun (o : Out) => ∃ (ts : TabI) (x9 x10 x11 : Sl) (l' : List Int), ts.length ≤ 31 ∧ (∀ t ∈ ts, t.1.length ≤ 300) ∧ o = .nx (st ts x9 x10 x11) (tp l' R)) ?_ ?_
  · simp only [st]
    walk_at "w1"
    split
    · refine ⟨by rw [show ("z" : Str).length = 1 from rfl]; unfold sizeLine; omega, by decide, by simp [pureD, pureDs], ?_⟩
      rw [o_ixN (by simpa using T4a)]
      rw [show D.tup [.str (t0.1 ++ ("z" : Str)), .int t0.2] = colI (t0.1 ++ ("z" : Str), t0.2) from rfl, setI]
      refine ⟨_, x9, x10, x11, l6, by simpa using T4l, fun x hx => ?_, rfl⟩
      rcases List.mem_or_eq_of_mem_set hx with hx | rfl
      · exact T4n x hx
      · show (t0.1 ++ ("z" : Str)).length ≤ 300
        rw [app_len, show ("z" : Str).length = 1 from rfl]
        omega
    · exact ⟨ts4, _, _, _, l6, T4l, T4n, rfl⟩
  rintro _ ⟨ts5, x9, x10, x11, l7, T5l, T5n, rfl⟩
  simp only [st]
  walk_at "w1"
  -- kind above 4
  rw [w_seq]
  refine wp_mono (Q := fun (o : Out) => ∃ (ts : TabI) (x9 x10 x11 : Sl) (l' : List Int), ts.length ≤ 200 ∧ (∀ t ∈ ts, t.1.length ≤ 300) ∧ o = .nx (st ts x9 x10 x11) (tp l' R)) ?_ ?_
  · simp only [st]
    walk_at "w1"
    split
    · rw [w_seq]
      walk_at "w1"
      refine comp_enc (f := colI) (g := fun t => .str t.1) (fun t ht => ⟨_, rfl, rfl, wp_eq ?_⟩) (by unfold sizeLine; omega) ?_
      · unfold colI
        walk_at "w1"
      walk_at "w1"
      refine comp_encF (f := D.str) (g := fun w => .str (("q" : Str) ++ w)) (p := fun w => !decide (("q" : Str) ++ w ∈ ws)) (fun w hwm => ⟨_, rfl, wp_eq ?_, fun _ => wp_eq ?_⟩) (by unfold sizeLine; omega) ?_
      · have := hwl w hwm
        walk_at "w1"
        rw [any_str]
        refine ⟨?_, ⟨ok_str _, oks_strs _⟩, rfl⟩
        rw [show ("q" : Str).length = 1 from rfl]
        unfold sizeLine
        omega
      · have := hwl w hwm
        walk_at "w1"
        rw [show ("q" : Str).length = 1 from rfl]
        unfold sizeLine
        omega
      walk_at "w1"
      have e1 : (ts5.map fun t => D.str t.1) ++ ((ws.filter fun w => !decide (("q" : Str) ++ w ∈ ws)).map fun w => D.str (("q" : Str) ++ w)) = (ts5.map (·.1) ++ (ws.filter fun w => !decide (("q" : Str) ++ w ∈ ws)).map fun w => ("q" : Str) ++ w).map .str := by rw [List.map_append, List.map_map, List.map_map]; rfl
      have hfl : (ws.filter fun w => !decide (("q" : Str) ++ w ∈ ws)).length ≤ 30 := Nat.le_trans (List.length_filter_le _ _) hw
      rw [e1]
      have hm : ∀ s ∈ ts5.map (·.1) ++ (ws.filter fun w => !decide (("q" : Str) ++ w ∈ ws)).map fun w => ("q" : Str) ++ w, s.length ≤ 300 := fun s hs => by
        rcases List.mem_append.1 hs with hs | hs
        · obtain ⟨t, ht, rfl⟩ := List.mem_map.1 hs
          exact T5n t ht
        · obtain ⟨w, hwm, rfl⟩ := List.mem_map.1 hs
          have := hwl w (List.mem_filter.1 hwm).1
          rw [app_len, show ("q" : Str).length = 1 from rfl]
          omega
      have hml : (ts5.map (·.1) ++ (ws.filter fun w => !decide (("q" : Str) ++ w ∈ ws)).map fun w => ("q" : Str) ++ w).length ≤ 61 := by simp at hfl ⊢; omega
      refine ⟨by simp at hfl ⊢; unfold sizeLine; omega, ?_⟩
      generalize ts5.map (·.1) ++ (ws.filter fun w => !decide (("q" : Str) ++ w ∈ ws)).map (fun w => ("q" : Str) ++ w) = ms at hm hml
      rw [sort_str]
      refine ⟨str_keys (by unfold sizeLine; omega), ?_⟩
      refine takeN_wp (m := 3) (by decide) fun v l8 hv => ?_
      walk_at "w1"
      obtain ⟨ys, e2, hsub⟩ := cut_map D.str (ms.mergeSort strLe) none (some (20 + (v : Int)))
      rw [e2]
      have hys : ∀ y ∈ ys, y.length ≤ 300 := fun y hy => hm y (sort_mem.1 (hsub.subset hy))
      have hyl : ys.length ≤ 61 := Nat.le_trans hsub.length_le (by rw [(List.mergeSort_perm _ _).length_eq]; exact hml)
      refine comp_enc (f := D.str) (g := fun w => colI (w, 1)) (fun w hwm => ⟨_, rfl, rfl, wp_eq ?_⟩) (by unfold sizeLine; omega) ?_
      · walk_at "w1"
        exact ⟨by decide, rfl⟩
      refine ⟨ys.map fun w => (w, 1), x9, x10, .val (.lst ((ms.mergeSort strLe).map .str)), l8, by simp; omega, fun t ht => ?_, by simp only [List.map_map]; rfl⟩
      obtain ⟨w, hwm, rfl⟩ := List.mem_map.1 ht
      exact hys w hwm
    · exact ⟨ts5, _, _, _, l7, by omega, T5n, rfl⟩
  rintro _ ⟨ts6, x9, x10, x11, l8, T6l, T6n, rfl⟩
  simp only [st]
  walk_at "w1"
  exact h ts6 l8 T6l T6n
end
theorem law_ok {ns : List Int} (hl : ns.length ≤ 1000000) (hc : ∀ c ∈ ns, c.natAbs.log2 ≤ 1048576) : ∃ S', m_law [.rol (ns.map .int)] [] = some (.bl true, S') := by
  have key : wp (m_law [.rol (ns.map .int)] []) (fun p => p.1 = .bl true) := by
    unfold m_law b_law
    walk_at "w1"
    rw [w_seq]
    walk_at "w1"
    refine draws_wp (m := 400) (by decide) hl hc fun l0 => ?_
    walk_at "w1"
    rw [show [l0.map D.int] = tp l0 [] from rfl]
    rw [w_seq]
    walk_at "w1"
    refine words_wp (n := 22) rfl (by decide) fun ws l1 hw1 hw2 => ?_
    rw [w_seq]
    walk_at "w1"
    rw [show (21 : Int) = ((21 : Nat) : Int) from rfl, cut_to, ← List.map_take]
    refine any_schemaS_wp (by simp; omega) (hw2.nd.sublist (List.take_sublist _ _)) fun sch l2 hs1 hs2 hs3 hs4 => ?_
    have hww : ∀ t ∈ sch, isW t.1 = true ∧ t.1.length ≤ 52 := fun t ht => ⟨hw2.w _ (List.mem_of_mem_take (hs2 t ht).1), hw2.len _ (List.mem_of_mem_take (hs2 t ht).1)⟩
    rw [sch_colI]
    have good : isSch (sch.map fun t => (t.1, (t.2 : Int))) = true := by
      unfold isSch
      rw [List.map_map, decide_eq_true (by simpa using hs1), Bool.true_and, Bool.and_eq_true, List.all_eq_true]
      refine ⟨fun t ht => ?_, asc_of hs3 hs4⟩
      obtain ⟨u, hu, rfl⟩ := List.mem_map.1 ht
      unfold okT
      rw [(hww u hu).1, decide_eq_true (show (0 : Int) ≤ u.2 by omega), decide_eq_true (show (u.2 : Int) ≤ 8 by have := (hs2 u hu).2; omega)]
      rfl
    have hlen : (sch.map fun t => (t.1, (t.2 : Int))).length ≤ 20 := by simpa using hs1
    have hnl : ∀ t ∈ sch.map fun t => (t.1, (t.2 : Int)), t.1.length ≤ 200 := fun t ht => by
      obtain ⟨u, hu, rfl⟩ := List.mem_map.1 ht
      have := (hww u hu).2
      show u.1.length ≤ 200
      omega
    generalize sch.map (fun t => (t.1, (t.2 : Int))) = ts0 at good hlen hnl
    have hr : ∀ S, m_law_refused [tabI ts0] S = some (.bl false, S) := fun S => by
      rw [law_refused_eq (by omega) (fun t ht => by have := hnl t ht; omega), good]
      rfl
    rw [w_seq]
    walk_at "w1"
    refine wp_ok (hr _) ?_
    refine wp_ok same_bl ?_
    walk_at "w1"
    rw [w_seq]
    unfold tabI
    walk_at "w1"
    rw [List.length_map]
    by_cases h0 : ts0.length = 0
    · rw [if_pos (by omega)]
      walk_at "w1"
    · rw [if_neg (by omega)]
      rw [w_seq]
      walk_at "w1"
      rw [show D.tup (ts0.map colI) = tabI ts0 from rfl]
      refine changed_wp rfl (by omega) hlen hnl (by omega) (fun s hs => by have := hw2.len s hs; omega) fun ts l3 g1 g2 => ?_
      rw [w_seq]
      walk_at "w1"
      refine wp_ok (law_refused_eq (by omega) fun t ht => by have := g2 t ht; omega) ?_
      refine wp_ok (law_is_schema_eq (by omega) fun t ht => by have := g2 t ht; omega) ?_
      refine wp_ok (a := .bl (!isSch ts)) rfl ?_
      refine wp_ok same_bl ?_
      walk_at "w1"
      refine wp_ok (hr _) ?_
      exact wp_ok same_bl rfl
  obtain ⟨⟨d, S'⟩, e1, e2⟩ := key
  exact ⟨S', by rw [e1, show d = _ from e2]⟩
theorem cells_of {ns : List Int} (h : ∀ n ∈ ns, Builtin.Int.intBits n ≤ 1048576) : ∀ c ∈ ns, c.natAbs.log2 ≤ 1048576 := fun c hc => by
  have := h c hc
  unfold Builtin.Int.intBits at this
  split at this <;> rename_i e
  · have : c = 0 := by simpa using e
    subst this
    decide
  · omega
end G


theorem PySem.Challenge.cw_rightchance_k11_schemas_and_others_holds : PySem.Challenge.rw_rightchance_k11_schemas_and_others.Holds := by
  exact G.close fun ns h1 h2 => G.law_ok (Nat.le_trans h1 (by decide)) (G.cells_of h2)
