import PyProof.Rows.All
import Wide.All
import OpenK.AllK
import Wide.FinOn
import HandS.ForMost
import HandS.TupAny
import HandS.Codes
import HandS.Deep
import HandS.Zip
import KE.GoesEnum
import KE.DataEq
import PySem.Challenge.RW_weavewrit_k77_cuts_in_order
set_option Elab.async false
set_option maxRecDepth 100000
set_option maxHeartbeats 2000000
/-! ALayer: values whose tuples are pure data, a store for what changes, and the rules of HandS lifted to it. -/
namespace WA
open PySem L2

/-! ### 1. values, store -/
/-- a value: tuples (and lists that nobody may change) are data, all else that lives is a reference -/
inductive A where
  | non | bl (b : Bool) | int (i : Int) | str (x : Str) | tup (l : List A) | fl (l : List A) | ref (a : Addr)

/-- what never changes at an address: a list -/
def FzL (K : PySem.W.Frag) (H : Hp) (a : Addr) (xs : List V) : Prop :=
  (∃ o, H a = some (.frz o (.lst xs))) ∨
    ∃ (o : Obj) (its : Array Value) (n : Nat), K.lookup a = some o ∧ o.cls = .type "list" ∧ o.dict = none ∧ o.data = .seq its n ∧ its.size ≤ sizeLine ∧ Vals xs its.toList
theorem FzL.sq {K : PySem.W.Frag} {H : Hp} {a : Addr} {xs : List V} (h : FzL K H a xs) : SqL K H a xs := by
  rcases h with ⟨o, h⟩ | h
  · exact .inl (.inr ⟨o, h⟩)
  · exact .inr h

mutual
def RA (K : PySem.W.Frag) (H : Hp) : A → V → Prop
  | .non, v => v = .non
  | .bl b, v => v = .bl b
  | .int i, v => v = .int i
  | .str x, v => v = .str x
  | .tup l, v => ∃ a vs, v = .ref a ∧ SqT K H a vs ∧ RAs K H l vs
  | .fl l, v => ∃ a vs, v = .ref a ∧ FzL K H a vs ∧ RAs K H l vs
  | .ref a, v => v = .ref a
def RAs (K : PySem.W.Frag) (H : Hp) : List A → List V → Prop
  | [], vs => vs = []
  | x :: l, vs => ∃ v r, vs = v :: r ∧ RA K H x v ∧ RAs K H l r
end

/-- tuples and frozen lists stay -/
structure Tx (H H' : Hp) : Prop where
  tup : ∀ a xs, H a = some (.tup xs) → H' a = some (.tup xs)
  ftup : ∀ a o xs, H a = some (.frz o (.tup xs)) → H' a = some (.frz o (.tup xs))
  flst : ∀ a o xs, H a = some (.frz o (.lst xs)) → H' a = some (.frz o (.lst xs))
theorem Tx.refl (H : Hp) : Tx H H := ⟨fun _ _ h => h, fun _ _ _ h => h, fun _ _ _ h => h⟩
theorem Tx.trans {H H1 H2 : Hp} (a : Tx H H1) (b : Tx H1 H2) : Tx H H2 :=
  ⟨fun c xs h => b.tup c xs (a.tup c xs h), fun c o xs h => b.ftup c o xs (a.ftup c o xs h), fun c o xs h => b.flst c o xs (a.flst c o xs h)⟩
theorem Tx.new {H : Hp} {p : Addr} {o : HO} (h : H p = none) : Tx H (upd H p o) :=
  ⟨fun a xs e => by rw [upd_ne (ne_of_none e h)]; exact e, fun a u xs e => by rw [upd_ne (ne_of_none e h)]; exact e, fun a u xs e => by rw [upd_ne (ne_of_none e h)]; exact e⟩
/-- an object that changes -/
def Chg : HO → Prop
  | .tup _ => False
  | .frz _ _ => False
  | _ => True
theorem Tx.put {H : Hp} {p : Addr} {o u : HO} (h : H p = some u) (c : Chg u) : Tx H (upd H p o) := by
  have ne : ∀ {a : Addr} {w : HO}, H a = some w → ¬ Chg w → a ≠ p := fun {a w} e n q => by
    subst q
    rw [h] at e
    cases e
    exact n c
  exact ⟨fun a xs e => by rw [upd_ne (ne e fun z => z)]; exact e, fun a v xs e => by rw [upd_ne (ne e fun z => z)]; exact e, fun a v xs e => by rw [upd_ne (ne e fun z => z)]; exact e⟩
theorem Tx.sqt {K : PySem.W.Frag} {H H' : Hp} {a : Addr} {xs : List V} (t : Tx H H') (h : SqT K H a xs) : SqT K H' a xs := by
  rcases h with (h | ⟨o, h⟩) | h
  · exact .inl (.inl (t.tup _ _ h))
  · exact .inl (.inr ⟨o, t.ftup _ _ _ h⟩)
  · exact .inr h
theorem Tx.fzl {K : PySem.W.Frag} {H H' : Hp} {a : Addr} {xs : List V} (t : Tx H H') (h : FzL K H a xs) : FzL K H' a xs := by
  rcases h with ⟨o, h⟩ | h
  · exact .inl ⟨o, t.flst _ _ _ h⟩
  · exact .inr h

mutual
theorem RA.mono {K : PySem.W.Frag} {H H' : Hp} (t : Tx H H') : ∀ (x : A) (v : V), RA K H x v → RA K H' x v
  | .non, _, h => h
  | .bl _, _, h => h
  | .int _, _, h => h
  | .str _, _, h => h
  | .ref _, _, h => h
  | .tup l, _, ⟨a, vs, e, s, r⟩ => ⟨a, vs, e, t.sqt s, RAs.mono t l vs r⟩
  | .fl l, _, ⟨a, vs, e, s, r⟩ => ⟨a, vs, e, t.fzl s, RAs.mono t l vs r⟩
theorem RAs.mono {K : PySem.W.Frag} {H H' : Hp} (t : Tx H H') : ∀ (l : List A) (vs : List V), RAs K H l vs → RAs K H' l vs
  | [], _, h => h
  | x :: l, _, ⟨v, r, e, h, hs⟩ => ⟨v, r, e, RA.mono t x v h, RAs.mono t l r hs⟩
end

section
variable {K : PySem.W.Frag} {H : Hp}
theorem RAs.nil : RAs K H [] [] := rfl
theorem RAs.cons {x : A} {v : V} {l : List A} {vs : List V} (h : RA K H x v) (t : RAs K H l vs) : RAs K H (x :: l) (v :: vs) := ⟨v, vs, rfl, h, t⟩
theorem RAs.length : ∀ {l : List A} {vs : List V}, RAs K H l vs → vs.length = l.length
  | [], _, h => by cases h; rfl
  | x :: l, _, ⟨v, r, e, _, hs⟩ => by subst e; simp [RAs.length hs]
theorem RAs.get : ∀ {l : List A} {vs : List V} {i : Nat} {x : A}, RAs K H l vs → l[i]? = some x → ∃ v, vs[i]? = some v ∧ RA K H x v
  | [], _, i, x, _, e => by simp at e
  | y :: l, _, 0, x, ⟨v, r, e, h, _⟩, q => by subst e; simp at q; subst q; exact ⟨v, rfl, h⟩
  | y :: l, _, i + 1, x, ⟨v, r, e, _, hs⟩, q => by
    subst e
    obtain ⟨u, h1, h2⟩ := RAs.get (i := i) (x := x) hs (by simpa using q)
    exact ⟨u, by simpa using h1, h2⟩
theorem RAs.getV {l : List A} {vs : List V} {i : Nat} {v : V} (h : RAs K H l vs) (e : vs[i]? = some v) : ∃ x, l[i]? = some x ∧ RA K H x v := by
  have hl := h.length
  obtain ⟨hi, _⟩ := List.getElem?_eq_some_iff.mp e
  have hi' : i < l.length := by omega
  obtain ⟨u, h1, h2⟩ := h.get (List.getElem?_eq_getElem hi')
  rw [e] at h1
  cases h1
  exact ⟨_, List.getElem?_eq_getElem hi', h2⟩
theorem RAs.append : ∀ {l m : List A} {vs ws : List V}, RAs K H l vs → RAs K H m ws → RAs K H (l ++ m) (vs ++ ws)
  | [], _, _, _, h, s => by cases h; exact s
  | x :: l, m, _, _, ⟨v, r, e, h, hs⟩, s => by subst e; exact ⟨v, _, rfl, h, RAs.append hs s⟩
theorem RAs.take : ∀ {l : List A} {vs : List V} (n : Nat), RAs K H l vs → RAs K H (l.take n) (vs.take n)
  | l, vs, 0, _ => by simp [RAs]
  | [], _, n + 1, h => by cases h; simp [RAs]
  | x :: l, _, n + 1, ⟨v, r, e, h, hs⟩ => by subst e; exact ⟨v, _, rfl, h, RAs.take n hs⟩
theorem RAs.drop : ∀ {l : List A} {vs : List V} (n : Nat), RAs K H l vs → RAs K H (l.drop n) (vs.drop n)
  | l, vs, 0, h => h
  | [], _, n + 1, h => by cases h; simp [RAs]
  | x :: l, _, n + 1, ⟨v, r, e, h, hs⟩ => by subst e; exact RAs.drop n hs
theorem RAs.set : ∀ {l : List A} {vs : List V} (i : Nat) {x : A} {v : V}, RAs K H l vs → RA K H x v → RAs K H (l.set i x) (vs.set i v)
  | [], _, _, _, _, h, _ => by cases h; simp [RAs]
  | y :: l, _, 0, x, v, ⟨w, r, e, h, hs⟩, hx => by subst e; exact ⟨v, r, rfl, hx, hs⟩
  | y :: l, _, i + 1, x, v, ⟨w, r, e, h, hs⟩, hx => by subst e; exact ⟨w, _, rfl, h, RAs.set i hs hx⟩
theorem RAs.eraseIdx : ∀ {l : List A} {vs : List V} (i : Nat), RAs K H l vs → RAs K H (l.eraseIdx i) (vs.eraseIdx i)
  | [], _, _, h => by cases h; simp [RAs]
  | y :: l, _, 0, ⟨w, r, e, h, hs⟩ => by subst e; exact hs
  | y :: l, _, i + 1, ⟨w, r, e, h, hs⟩ => by subst e; exact ⟨w, _, rfl, h, RAs.eraseIdx i hs⟩
theorem RAs.ints : ∀ (ns : List Int), RAs K H (ns.map A.int) (ns.map V.int)
  | [] => rfl
  | n :: ns => ⟨_, _, rfl, rfl, RAs.ints ns⟩
theorem RAs.one {x : A} {vs : List V} (h : RAs K H [x] vs) : ∃ v, vs = [v] ∧ RA K H x v := by
  obtain ⟨v, r, e, h1, h2⟩ := h
  cases h2
  exact ⟨v, e, h1⟩
theorem RAs.two {x y : A} {vs : List V} (h : RAs K H [x, y] vs) : ∃ v w, vs = [v, w] ∧ RA K H x v ∧ RA K H y w := by
  obtain ⟨v, r, e, h1, h2⟩ := h
  obtain ⟨w, rfl, h3⟩ := h2.one
  exact ⟨v, w, e, h1, h3⟩
end

/-- what changes -/
inductive MO where
  | lst (xs : List A)
  | ins (C : Addr) (fs : List (Str × A))
  | dk (kvs : List (Key × A))

def RF (K : PySem.W.Frag) (H : Hp) (fs : List (Str × A)) (gs : List (Str × V)) : Prop := fs.map (·.1) = gs.map (·.1) ∧ RAs K H (fs.map (·.2)) (gs.map (·.2))
def RD (K : PySem.W.Frag) (H : Hp) (fs : List (Key × A)) (gs : List (Key × V)) : Prop := fs.map (·.1) = gs.map (·.1) ∧ RAs K H (fs.map (·.2)) (gs.map (·.2))
def RM (K : PySem.W.Frag) (H : Hp) (a : Addr) : MO → Prop
  | .lst xs => ∃ vs, H a = some (.lst vs) ∧ RAs K H xs vs
  | .ins C fs => ∃ dx gs, H a = some (.ins C dx gs) ∧ RF K H fs gs
  | .dk kvs => ∃ ws, H a = some (.dK ws) ∧ RD K H kvs ws

abbrev Store := Addr → Option MO
def us (S : Store) (a : Addr) (m : MO) : Store := fun b => if b = a then some m else S b
theorem us_same {S : Store} {a : Addr} {m : MO} : us S a m a = some m := by unfold us; rw [if_pos rfl]
theorem us_ne {S : Store} {a b : Addr} {m : MO} (h : b ≠ a) : us S a m b = S b := by unfold us; rw [if_neg h]
theorem us_us {S : Store} {a : Addr} {m n : MO} : us (us S a m) a n = us S a n := by funext b; unfold us; split <;> rfl
theorem us_comm {S : Store} {a b : Addr} {m n : MO} (h : a ≠ b) : us (us S a m) b n = us (us S b n) a m := by
  funext c
  unfold us
  by_cases h1 : c = b
  · subst h1
    rw [if_pos rfl, if_neg (Ne.symm h), if_pos rfl]
  · rw [if_neg h1]
    by_cases h2 : c = a
    · rw [if_pos h2, if_pos h2]
    · rw [if_neg h2, if_neg h2, if_neg h1]
theorem sne {S : Store} {a b : Addr} {m : MO} (h : S a = some m) (h' : S b = none) : a ≠ b := by intro e; subst e; rw [h] at h'; cases h'
theorem sne' {S : Store} {a b : Addr} {m : MO} (h : S a = some m) (h' : S b = none) : b ≠ a := (sne h h').symm
def RS (K : PySem.W.Frag) (S : Store) (H : Hp) : Prop := ∀ a m, S a = some m → RM K H a m
/-- less is known -/
def Le (S S' : Store) : Prop := ∀ a m, S a = some m → S' a = some m
theorem Le.refl (S : Store) : Le S S := fun _ _ h => h
theorem Le.trans {S S1 S2 : Store} (a : Le S S1) (b : Le S1 S2) : Le S S2 := fun c m h => b c m (a c m h)
theorem Le.new {S : Store} {p : Addr} {m : MO} (h : S p = none) : Le S (us S p m) := fun a n e => by rw [us_ne (sne e h)]; exact e
/-- what S does not know may change -/
theorem Le.put {S S' : Store} {p : Addr} {m : MO} (e : Le S S') (h : S p = none) : Le S (us S' p m) := fun a n q => by rw [us_ne (sne q h)]; exact e a n q
theorem Le.none {S S' : Store} {p : Addr} (e : Le S S') (h : S' p = none) : S p = none := by
  cases q : S p with
  | none => rfl
  | some m => rw [e p m q] at h; cases h
theorem Le.both {S S' : Store} {p : Addr} {m : MO} (e : Le S S') : Le (us S p m) (us S' p m) := fun a n q => by
  by_cases h : a = p
  · subst h
    rw [us_same] at q
    rw [us_same]
    exact q
  · rw [us_ne h] at q
    rw [us_ne h]
    exact e a n q
theorem RS.le {K : PySem.W.Frag} {S S' : Store} {H : Hp} (r : RS K S' H) (l : Le S S') : RS K S H := fun a m h => r a m (l a m h)

section
variable {K : PySem.W.Frag} {S : Store} {H H' : Hp}
theorem RM.mono {a : Addr} {m : MO} (t : Tx H H') (e : H' a = H a) (h : RM K H a m) : RM K H' a m := by
  cases m with
  | lst xs =>
    obtain ⟨vs, h1, h2⟩ := h
    exact ⟨vs, by rw [e]; exact h1, RAs.mono t _ _ h2⟩
  | ins C fs =>
    obtain ⟨dx, gs, h1, h2, h3⟩ := h
    exact ⟨dx, gs, by rw [e]; exact h1, h2, RAs.mono t _ _ h3⟩
  | dk kvs =>
    obtain ⟨ws, h1, h2, h3⟩ := h
    exact ⟨ws, by rw [e]; exact h1, h2, RAs.mono t _ _ h3⟩
theorem RM.some {a : Addr} {m : MO} (h : RM K H a m) : ∃ o, H a = some o ∧ Chg o := by
  cases m with
  | lst xs => obtain ⟨vs, h1, h2⟩ := h; exact ⟨_, h1, trivial⟩
  | ins C fs => obtain ⟨dx, gs, h1, h2⟩ := h; exact ⟨_, h1, trivial⟩
  | dk kvs => obtain ⟨ws, h1, h2⟩ := h; exact ⟨_, h1, trivial⟩
theorem RS.none (r : RS K S H) {p : Addr} (h : H p = none) : S p = none := by
  cases e : S p with
  | none => rfl
  | some m =>
    obtain ⟨o, q, _⟩ := (r p m e).some
    rw [h] at q
    cases q
/-- a new object that the store does not name -/
theorem RS.new (r : RS K S H) {p : Addr} {o : HO} (h : H p = Option.none) : RS K S (upd H p o) := fun a m e => by
  obtain ⟨u, q, _⟩ := (r a m e).some
  exact (r a m e).mono (Tx.new h) (upd_ne (ne_of_none q h))
/-- a new object, named -/
theorem RS.make (r : RS K S H) {p : Addr} {o : HO} {m : MO} (h : H p = Option.none) (n : RM K (upd H p o) p m) : RS K (us S p m) (upd H p o) := fun a k e => by
  by_cases q : a = p
  · subst q
    rw [us_same] at e
    cases e
    exact n
  · rw [us_ne q] at e
    exact r.new h a k e
/-- an object written -/
theorem RS.put (r : RS K S H) {p : Addr} {o u : HO} {m : MO} (h : H p = Option.some u) (c : Chg u) (n : RM K (upd H p o) p m) : RS K (us S p m) (upd H p o) := fun a k e => by
  by_cases q : a = p
  · subst q
    rw [us_same] at e
    cases e
    exact n
  · rw [us_ne q] at e
    exact (r a k e).mono (Tx.put h c) (upd_ne q)
/-- the heap stays but for things that the store does not name -/
theorem RS.tx (r : RS K S H) (t : Tx H H') (e : ∀ a m, S a = Option.some m → H' a = H a) : RS K S H' := fun a m h => (r a m h).mono t (e a m h)
end

/-! ### 2. lifting -/
abbrev Env' := List (Option A)
structure Rσ (K : PySem.W.Frag) (H : Hp) (env : Env') (σ : L2.St) : Prop where
  len : env.length = σ.length
  get : ∀ (i : Nat) (x : A), env[i]? = some (some x) → ∃ v, σ[i]? = some (some v) ∧ RA K H x v
theorem Rσ.mono {K : PySem.W.Frag} {H H' : Hp} {env : Env'} {σ : L2.St} (t : Tx H H') (r : Rσ K H env σ) : Rσ K H' env σ :=
  ⟨r.len, fun i x e => let ⟨v, h1, h2⟩ := r.get i x e; ⟨v, h1, RA.mono t x v h2⟩⟩
theorem Rσ.set {K : PySem.W.Frag} {H : Hp} {env : Env'} {σ : L2.St} (r : Rσ K H env σ) (i : Nat) {x : A} {v : V} (h : RA K H x v) : Rσ K H (env.set i (some x)) (σ.set i (some v)) := by
  refine ⟨by simp [r.len], fun j y e => ?_⟩
  by_cases q : j = i
  · subst q
    have hj : j < env.length := by
      obtain ⟨hj, _⟩ := List.getElem?_eq_some_iff.mp e
      simpa using hj
    rw [List.getElem?_set_self hj] at e
    cases e
    exact ⟨v, List.getElem?_set_self (by rw [← r.len]; exact hj), h⟩
  · rw [List.getElem?_set_ne (Ne.symm q)] at e
    rw [List.getElem?_set_ne (Ne.symm q)]
    exact r.get j y e

abbrev AK := A → Store → Prop
abbrev ATE := Env' → Store → AK → Prop
abbrev ATT := Env' → Store → (Bool → Store → Prop) → Prop
abbrev ATA := Env' → Store → (List A → Store → Prop) → Prop
structure AEnds where
  nx : Env' → Store → Prop
  rt : AK
  bk : Env' → Store → Prop := fun _ _ => False
  ct : Env' → Store → Prop := fun _ _ => False
abbrev ATS := AEnds → Env' → Store → Prop

def liftE (K : PySem.W.Frag) (t : ATE) : TE := fun σ H Q => ∃ env S, ∃ Q' : AK, Rσ K H env σ ∧ RS K S H ∧ t env S Q' ∧ ∀ v H' x S', Tx H H' → RA K H' x v → RS K S' H' → Q' x S' → Q v H'
def liftT (K : PySem.W.Frag) (t : ATT) : TT := fun σ H Q => ∃ env S, ∃ Q' : Bool → Store → Prop, Rσ K H env σ ∧ RS K S H ∧ t env S Q' ∧ ∀ b H' S', Tx H H' → RS K S' H' → Q' b S' → Q b H'
def liftA (K : PySem.W.Frag) (t : ATA) : TA := fun σ H Q => ∃ env S, ∃ Q' : List A → Store → Prop, Rσ K H env σ ∧ RS K S H ∧ t env S Q' ∧ ∀ vs H' xs S', Tx H H' → RAs K H' xs vs → RS K S' H' → Q' xs S' → Q vs H'
structure Dom (K : PySem.W.Frag) (H : Hp) (D' : AEnds) (D : Ends) : Prop where
  nx : ∀ env S σ H', Tx H H' → Rσ K H' env σ → RS K S H' → D'.nx env S → D.nx σ H'
  rt : ∀ x S v H', Tx H H' → RA K H' x v → RS K S H' → D'.rt x S → D.rt v H'
  bk : ∀ env S σ H', Tx H H' → Rσ K H' env σ → RS K S H' → D'.bk env S → D.bk σ H'
  ct : ∀ env S σ H', Tx H H' → Rσ K H' env σ → RS K S H' → D'.ct env S → D.ct σ H'
theorem Dom.mono {K : PySem.W.Frag} {H H1 : Hp} {D' : AEnds} {D : Ends} (d : Dom K H D' D) (t : Tx H H1) : Dom K H1 D' D :=
  ⟨fun e S σ H' u => d.nx e S σ H' (t.trans u), fun e S σ H' u => d.rt e S σ H' (t.trans u), fun e S σ H' u => d.bk e S σ H' (t.trans u), fun e S σ H' u => d.ct e S σ H' (t.trans u)⟩
def liftS (K : PySem.W.Frag) (t : ATS) : TS := fun D σ H => ∃ env S D', Rσ K H env σ ∧ RS K S H ∧ t D' env S ∧ Dom K H D' D

def AE (X : Cx) (e : Expr) (t : ATE) : Prop := PE X e (liftE X.K t)
def AT (X : Cx) (e : Expr) (t : ATT) : Prop := PT X e (liftT X.K t)
def AA (X : Cx) (es : List Expr) (t : ATA) : Prop := PA X es (liftA X.K t)
def AS (X : Cx) (s : Stmt) (t : ATS) : Prop := PS X s (liftS X.K t)
def ASs (X : Cx) (s : List Stmt) (t : ATS) : Prop := PSs X s (liftS X.K t)

theorem PE.imp {X : Cx} {e : Expr} {t u : TE} (h : PE X e t) (i : ∀ σ H Q, u σ H Q → t σ H Q) : PE X e u := ⟨fun pins s σ H Q I q => h.run pins s σ H Q I (i σ H Q q)⟩
theorem PT.imp {X : Cx} {e : Expr} {t u : TT} (h : PT X e t) (i : ∀ σ H Q, u σ H Q → t σ H Q) : PT X e u := ⟨fun pins s σ H Q I q => h.run pins s σ H Q I (i σ H Q q)⟩
theorem PW.imp {X : Cx} {e : Expr} {t u : TT} (h : PW X e t) (i : ∀ σ H Q, u σ H Q → t σ H Q) : PW X e u := ⟨fun w pins s σ H Q I q => h.run w pins s σ H Q I (i σ H Q q)⟩
theorem PA.imp {X : Cx} {e : List Expr} {t u : TA} (h : PA X e t) (i : ∀ σ H Q, u σ H Q → t σ H Q) : PA X e u := ⟨fun pos pins s σ H Q I q => h.run pos pins s σ H Q I (i σ H Q q)⟩
theorem PS.imp {X : Cx} {s : Stmt} {t u : TS} (h : PS X s t) (i : ∀ D σ H, u D σ H → t D σ H) : PS X s u := ⟨fun pins s σ H D I q => h.run pins s σ H D I (i D σ H q)⟩
theorem PSs.imp {X : Cx} {s : List Stmt} {t u : TS} (h : PSs X s t) (i : ∀ D σ H, u D σ H → t D σ H) : PSs X s u := ⟨fun pins s σ H D I q => h.run pins s σ H D I (i D σ H q)⟩
end WA

set_option Elab.async false
set_option maxRecDepth 100000
set_option maxHeartbeats 2000000
set_option linter.all false
namespace WA
open PySem L2

/-! ### 3. expressions -/
def aVar (i : Nat) : ATE := fun env S Q => match env[i]? with
  | some (some x) => Q x S
  | _ => False
def aC (x : A) : ATE := fun _ S Q => Q x S
section
variable {X : Cx} {a b c e : Expr} {es : List Expr} {ta tb tc te : ATE} {pos p : Pos} {x : Str}
theorem ae_var (i : Nat) {x : Str} {pos : Pos} (hN : X.N[i]? = some x := by rfl) (hv : Vis X.env.scope x := by first | exact Or.inl rfl | exact Or.inr (Or.inl rfl) | exact Or.inr (Or.inr rfl)) (hd : (x == ("__debug__" : Str)) = false := by decide)
    (hcd : (x == ("__classdict__" : Str)) = false := by decide) : AE X (.Name x pos) (aVar i) :=
  PE.imp (pe_var hN hv hd hcd) fun σ H Q ⟨env, S, Q', rσ, rs, t, k⟩ => by
    unfold aVar at t
    split at t
    · rename_i y hy
      obtain ⟨v, h1, h2⟩ := rσ.get i y hy
      exact ⟨v, h1, k v H y S (Tx.refl H) h2 rs t⟩
    · exact t.elim
theorem ae_const {v : V} {x : A} (h : PE X e (tC v)) (r : ∀ H, RA X.K H x v) : AE X e (aC x) :=
  PE.imp h fun σ H Q ⟨env, S, Q', rσ, rs, t, k⟩ => k v H x S (Tx.refl H) (r H) rs t
theorem ae_int {i j pos} : AE X (.Constant (.int i) j pos) (aC (.int i)) := ae_const pe_int fun _ => rfl
theorem ae_bl {i j pos} : AE X (.Constant (.bool i) j pos) (aC (.bl i)) := ae_const pe_bl fun _ => rfl
theorem ae_non {j pos} : AE X (.Constant .none j pos) (aC .non) := ae_const pe_non fun _ => rfl
theorem ae_str {i j pos} : AE X (.Constant (.str i) j pos) (aC (.str i)) := ae_const pe_str fun _ => rfl
/-- a def or class of the module, as a value -/
theorem ae_gref {f : Addr} (hg : Gl X x) (hm : X.mg x = some (.ref f)) (hd : (x == ("__debug__" : Str)) = false := by decide) : AE X (.Name x pos) (aC (.ref f)) := ae_const (pe_glob (v := .ref f) hg hm rfl hd) fun _ => rfl

/-! operators by values -/
abbrev AOp := A → A → Store → AK → Prop
def liftO (K : PySem.W.Frag) (r : AOp) : R2 := fun v w H Q => ∃ x y S, ∃ Q' : AK, RA K H x v ∧ RA K H y w ∧ RS K S H ∧ r x y S Q' ∧ ∀ z H' a S', Tx H H' → RA K H' a z → RS K S' H' → Q' a S' → Q z H'
def OpA (X : Cx) (f : Value → Value → Sem Value) (r : AOp) : Prop := OpR X f (liftO X.K r)
theorem OpR.imp {f : Value → Value → Sem Value} {r r' : R2} (h : OpR X f r) (i : ∀ v w H Q, r' v w H Q → r v w H Q) : OpR X f r' :=
  fun pins s σ H x y v u Q I rx ry q => h pins s σ H x y v u Q I rx ry (i x y H Q q)
def aOp (r : AOp) (ta tb : ATE) : ATE := fun env S Q => ta env S fun x S1 => tb env S1 fun y S2 => r x y S2 Q
theorem op_lift {K : PySem.W.Frag} {r : AOp} {σ : L2.St} {H : Hp} {Q : VK} (h : liftE K (aOp r ta tb) σ H Q) : tOp (liftO K r) (liftE K ta) (liftE K tb) σ H Q := by
  obtain ⟨env, S, Q', rσ, rs, t, k⟩ := h
  exact ⟨env, S, _, rσ, rs, t, fun v H1 x S1 t1 rx rs1 q1 => ⟨env, S1, _, rσ.mono t1, rs1, q1, fun w H2 y S2 t2 ry rs2 q2 =>
    ⟨x, y, S2, Q', RA.mono t2 _ _ rx, ry, rs2, q2, fun z H3 a S3 t3 => k z H3 a S3 ((t1.trans t2).trans t3)⟩⟩⟩
theorem ae_op {op : Operator} {r : AOp} (ho : OpA X (binaryOp op) r) (ha : AE X a ta) (hb : AE X b tb) : AE X (.BinOp a op b pos) (aOp r ta tb) := PE.imp (pe_op ho ha hb) fun _ _ _ h => op_lift h
theorem ae_cmp {op : CmpOp} {r : AOp} (ho : OpA X (compareOp op) r) (ha : AE X a ta) (hb : AE X b tb) (hm : behindInMarks op b = false := by first | exact nobehind _ (by decide) (by decide) | rfl) : AE X (.Compare a [op] [b] pos) (aOp r ta tb) :=
  PE.imp (pe_cmpR ho ha hb hm) fun _ _ _ h => op_lift h
/-- a value that is a bool, as a test -/
def aTest (t : ATE) : ATT := fun env S Q => t env S fun x S1 => match x with
  | .bl b => Q b S1
  | _ => False
theorem test_lift {K : PySem.W.Frag} {t : ATE} {u : TE} {σ : L2.St} {H : Hp} {Q : Bool → Hp → Prop} (hu : ∀ R, liftE K t σ H R → u σ H R) (h : liftT K (aTest t) σ H Q) : tTest u σ H Q := by
  obtain ⟨env, S, Q', rσ, rs, q, k⟩ := h
  refine hu _ ⟨env, S, _, rσ, rs, q, fun v H1 x S1 t1 rx rs1 q1 => ?_⟩
  cases x with
  | bl b => cases rx; exact ⟨b, rfl, k b H1 S1 t1 rs1 q1⟩
  | _ => exact q1.elim
theorem at_cmp {op : CmpOp} {r : AOp} (ho : OpA X (compareOp op) r) (ha : AE X a ta) (hb : AE X b tb) (hm : behindInMarks op b = false := by first | exact nobehind _ (by decide) (by decide) | rfl) : AT X (.Compare a [op] [b] pos) (aTest (aOp r ta tb)) :=
  PT.imp (pt_cmpR ho ha hb hm) fun _ _ _ h => test_lift (fun _ => op_lift) h
theorem at_val (h : AE X e te) (he : ∀ whole, isTrue e X.env whole = (do let v ← whole; standAt e.pos; holding [v] (truthy v)) := by intro _; rfl) : AT X e (aTest te) :=
  PT.imp (pt_val h he) fun _ _ _ h => test_lift (u := liftE X.K te) (fun _ q => q) h
/-- a comparison with None, a chain -/
def A.isN : A → Bool
  | .non => true
  | _ => false
def aIsN (ta : ATE) : ATE := fun env S Q => ta env S fun x S1 => Q (.bl x.isN) S1
def aNotN (ta : ATE) : ATE := fun env S Q => ta env S fun x S1 => Q (.bl (!x.isN)) S1
theorem isN_eq {K : PySem.W.Frag} {H : Hp} {x : A} {v : V} (r : RA K H x v) : decide (v = .non) = x.isN := by
  cases x with
  | non => cases r; rfl
  | bl b => cases r; rfl
  | int b => cases r; rfl
  | str b => cases r; rfl
  | ref b => cases r; rfl
  | tup l => obtain ⟨a, vs, rfl, _⟩ := r; rfl
  | fl l => obtain ⟨a, vs, rfl, _⟩ := r; rfl
theorem pc_isN_lift (ha : AE X a ta) {j pos'} : PC X .Is a (.Constant .none j pos') (liftE X.K (aIsN ta)) :=
  ⟨fun pins s σ H Q I h => (pc_isN (j := j) (pos' := pos') ha).run pins s σ H Q I (by
    obtain ⟨env, S, Q', rσ, rs, t, k⟩ := h
    exact ⟨env, S, _, rσ, rs, t, fun v H1 x S1 t1 rx rs1 q1 => k _ H1 (.bl x.isN) S1 t1 (by rw [isN_eq rx]; rfl) rs1 q1⟩)⟩
theorem pc_notN_lift (ha : AE X a ta) {j pos'} : PC X .IsNot a (.Constant .none j pos') (liftE X.K (aNotN ta)) :=
  ⟨fun pins s σ H Q I h => (pc_notN (j := j) (pos' := pos') ha).run pins s σ H Q I (by
    obtain ⟨env, S, Q', rσ, rs, t, k⟩ := h
    exact ⟨env, S, _, rσ, rs, t, fun v H1 x S1 t1 rx rs1 q1 => k _ H1 (.bl (!x.isN)) S1 t1 (by rw [isN_eq rx]; rfl) rs1 q1⟩)⟩
theorem ae_isN (ha : AE X a ta) {j pos'} : AE X (.Compare a [.Is] [.Constant .none j pos'] pos) (aIsN ta) := pe_cmp (pc_isN_lift ha)
theorem ae_notN (ha : AE X a ta) {j pos'} : AE X (.Compare a [.IsNot] [.Constant .none j pos'] pos) (aNotN ta) := pe_cmp (pc_notN_lift ha)
theorem at_isN (ha : AE X a ta) {j pos'} : AT X (.Compare a [.Is] [.Constant .none j pos'] pos) (aTest (aIsN ta)) := PT.imp (pt_cmp (pc_isN_lift ha)) fun _ _ _ h => test_lift (u := liftE X.K (aIsN ta)) (fun _ q => q) h
theorem at_notN (ha : AE X a ta) {j pos'} : AT X (.Compare a [.IsNot] [.Constant .none j pos'] pos) (aTest (aNotN ta)) := PT.imp (pt_cmp (pc_notN_lift ha)) fun _ _ _ h => test_lift (u := liftE X.K (aNotN ta)) (fun _ q => q) h

/-! tests -/
variable {tA tB : ATT} {rest : List Expr}
def AW (X : Cx) (e : Expr) (t : ATT) : Prop := PW X e (liftT X.K t)
def aAnd (t u : ATT) : ATT := fun env S Q => t env S fun c S1 => if c = true then u env S1 Q else Q false S1
def aOr (t u : ATT) : ATT := fun env S Q => t env S fun c S1 => if c = true then Q true S1 else u env S1 Q
def aNot (t : ATT) : ATT := fun env S Q => t env S fun c S1 => Q (!c) S1
theorem at_w (h : AW X e tA) : AT X e tA := PW.pt h
theorem aw_and1 (ha : AT X a tA) : AW X (.BoolOp .And [a] pos) tA := pw_and1 ha
theorem aw_or1 (ha : AT X a tA) : AW X (.BoolOp .Or [a] pos) tA := pw_or1 ha
theorem aw_and (ha : AT X a tA) (hb : AW X (.BoolOp .And (b :: rest) pos) tB) : AW X (.BoolOp .And (a :: b :: rest) pos) (aAnd tA tB) :=
  PW.imp (pw_and ha hb) fun σ H Q ⟨env, S, Q', rσ, rs, t, k⟩ => ⟨env, S, _, rσ, rs, t, fun b H1 S1 t1 rs1 q1 => by
    cases b with
    | true => exact ⟨env, S1, Q', rσ.mono t1, rs1, q1, fun b2 H2 S2 t2 => k b2 H2 S2 (t1.trans t2)⟩
    | false => exact k false H1 S1 t1 rs1 q1⟩
theorem aw_or (ha : AT X a tA) (hb : AW X (.BoolOp .Or (b :: rest) pos) tB) : AW X (.BoolOp .Or (a :: b :: rest) pos) (aOr tA tB) :=
  PW.imp (pw_or ha hb) fun σ H Q ⟨env, S, Q', rσ, rs, t, k⟩ => ⟨env, S, _, rσ, rs, t, fun b H1 S1 t1 rs1 q1 => by
    cases b with
    | true => exact k true H1 S1 t1 rs1 q1
    | false => exact ⟨env, S1, Q', rσ.mono t1, rs1, q1, fun b2 H2 S2 t2 => k b2 H2 S2 (t1.trans t2)⟩⟩
theorem at_not (ha : AT X a tA) : AT X (.UnaryOp .Not a pos) (aNot tA) :=
  PT.imp (pt_not ha) fun σ H Q ⟨env, S, Q', rσ, rs, t, k⟩ => ⟨env, S, _, rσ, rs, t, fun b H1 S1 t1 rs1 q1 => k (!b) H1 S1 t1 rs1 q1⟩
/-- and, or, not as values, of bools -/
def aAndV (ta tb : ATE) : ATE := fun env S Q => ta env S fun x S1 => match x with
  | .bl c => if c = true then tb env S1 Q else Q (.bl false) S1
  | _ => False
def aOrV (ta tb : ATE) : ATE := fun env S Q => ta env S fun x S1 => match x with
  | .bl c => if c = true then Q (.bl true) S1 else tb env S1 Q
  | _ => False
def aNotV (ta : ATE) : ATE := fun env S Q => ta env S fun x S1 => match x with
  | .bl c => Q (.bl (!c)) S1
  | _ => False
theorem ae_one {op} (h : AE X a ta) : AE X (.BoolOp op [a] pos) ta := pe_one h
theorem ae_and (ha : AE X a ta) (hb : AE X (.BoolOp .And (b :: rest) pos) tb) : AE X (.BoolOp .And (a :: b :: rest) pos) (aAndV ta tb) :=
  PE.imp (pe_and ha hb) fun σ H Q ⟨env, S, Q', rσ, rs, t, k⟩ => ⟨env, S, _, rσ, rs, t, fun v H1 x S1 t1 rx rs1 q1 => by
    cases x with
    | bl c =>
      cases rx
      refine ⟨c, rfl, ?_⟩
      cases c with
      | true => exact ⟨env, S1, Q', rσ.mono t1, rs1, q1, fun b2 H2 y S2 t2 => k b2 H2 y S2 (t1.trans t2)⟩
      | false => exact k _ H1 (.bl false) S1 t1 rfl rs1 q1
    | _ => exact q1.elim⟩
theorem ae_or (ha : AE X a ta) (hb : AE X (.BoolOp .Or (b :: rest) pos) tb) : AE X (.BoolOp .Or (a :: b :: rest) pos) (aOrV ta tb) :=
  PE.imp (pe_or ha hb) fun σ H Q ⟨env, S, Q', rσ, rs, t, k⟩ => ⟨env, S, _, rσ, rs, t, fun v H1 x S1 t1 rx rs1 q1 => by
    cases x with
    | bl c =>
      cases rx
      refine ⟨c, rfl, ?_⟩
      cases c with
      | true => exact k _ H1 (.bl true) S1 t1 rfl rs1 q1
      | false => exact ⟨env, S1, Q', rσ.mono t1, rs1, q1, fun b2 H2 y S2 t2 => k b2 H2 y S2 (t1.trans t2)⟩
    | _ => exact q1.elim⟩
theorem ae_not (ha : AE X a ta) : AE X (.UnaryOp .Not a pos) (aNotV ta) :=
  PE.imp (pe_not ha) fun σ H Q ⟨env, S, Q', rσ, rs, t, k⟩ => ⟨env, S, _, rσ, rs, t, fun v H1 x S1 t1 rx rs1 q1 => by
    cases x with
    | bl c =>
      cases rx
      exact ⟨c, rfl, k _ H1 (.bl (!c)) S1 t1 rfl rs1 q1⟩
    | _ => exact q1.elim⟩
def aIf (t : ATT) (ta tb : ATE) : ATE := fun env S Q => t env S fun c S1 => if c = true then ta env S1 Q else tb env S1 Q
theorem ae_if (hc : AT X c tA) (ha : AE X a ta) (hb : AE X b tb) : AE X (.IfExp c a b pos) (aIf tA ta tb) :=
  PE.imp (pe_ifExp hc ha hb) fun σ H Q ⟨env, S, Q', rσ, rs, t, k⟩ => ⟨env, S, _, rσ, rs, t, fun b H1 S1 t1 rs1 q1 => by
    cases b with
    | true => exact ⟨env, S1, Q', rσ.mono t1, rs1, q1, fun b2 H2 y S2 t2 => k b2 H2 y S2 (t1.trans t2)⟩
    | false => exact ⟨env, S1, Q', rσ.mono t1, rs1, q1, fun b2 H2 y S2 t2 => k b2 H2 y S2 (t1.trans t2)⟩⟩

/-! argument lists, displays -/
def aNil : ATA := fun _ S Q => Q [] S
def aCons (ta : ATE) (tr : ATA) : ATA := fun env S Q => ta env S fun x S1 => tr env S1 fun xs S2 => Q (x :: xs) S2
theorem aa_nil : AA X [] aNil := PA.imp pa_nil fun σ H Q ⟨env, S, Q', rσ, rs, t, k⟩ => k [] H [] S (Tx.refl H) rfl rs t
theorem aa_cons {t : ATA} (ha : AE X e te) (hr : AA X es t) (hs : starEach (e :: es) X.env = (false, eval e X.env) :: starEach es X.env := by rfl) : AA X (e :: es) (aCons te t) :=
  PA.imp (pa_cons ha hr hs) fun σ H Q ⟨env, S, Q', rσ, rs, t, k⟩ => ⟨env, S, _, rσ, rs, t, fun v H1 x S1 t1 rx rs1 q1 =>
    ⟨env, S1, _, rσ.mono t1, rs1, q1, fun vs H2 xs S2 t2 rxs rs2 q2 => k (v :: vs) H2 (x :: xs) S2 (t1.trans t2) (RAs.cons (RA.mono t2 _ _ rx) rxs) rs2 q2⟩⟩
def aTup (t : ATA) : ATE := fun env S Q => t env S fun xs S1 => xs.length ≤ sizeLine ∧ Q (.tup xs) S1
def aLst (t : ATA) : ATE := fun env S Q => t env S fun xs S1 => xs.length ≤ sizeLine ∧ ∀ p, S1 p = none → Q (.ref p) (us S1 p (.lst xs))
/-- a new tuple at p -/
theorem ra_new {K : PySem.W.Frag} {H : Hp} {p : Addr} {xs : List A} {vs : List V} (h : H p = none) (r : RAs K H xs vs) : RA K (upd H p (.tup vs)) (.tup xs) (.ref p) := ⟨p, vs, rfl, SqT.of upd_same, RAs.mono (Tx.new h) _ _ r⟩
theorem rm_new {K : PySem.W.Frag} {H : Hp} {p : Addr} {xs : List A} {vs : List V} (h : H p = none) (r : RAs K H xs vs) : RM K (upd H p (.lst vs)) p (.lst xs) := ⟨vs, upd_same, RAs.mono (Tx.new h) _ _ r⟩
theorem ae_tup {t : ATA} {x1} (h : AA X es t) : AE X (.Tuple es x1 pos) (aTup t) :=
  PE.imp (pe_tup h) fun σ H Q ⟨env, S, Q', rσ, rs, t, k⟩ => ⟨env, S, _, rσ, rs, t, fun vs H1 xs S1 t1 rx rs1 ⟨z, q1⟩ =>
    ⟨by rw [rx.length]; exact z, fun p hp => k _ _ (.tup xs) S1 (t1.trans (Tx.new hp)) (ra_new hp rx) (rs1.new hp) q1⟩⟩
theorem ae_lst {t : ATA} (h : AA X es t) : AE X (.List es pos) (aLst t) :=
  PE.imp (pe_lst h) fun σ H Q ⟨env, S, Q', rσ, rs, t, k⟩ => ⟨env, S, _, rσ, rs, t, fun vs H1 xs S1 t1 rx rs1 ⟨z, q1⟩ =>
    ⟨by rw [rx.length]; exact z, fun p hp => k _ _ (.ref p) _ (t1.trans (Tx.new hp)) rfl (rs1.make hp (rm_new hp rx)) (q1 p (rs1.none hp))⟩⟩
end

/-! ### 4. operators -/
def aI0 (g : Int → Int → A) : AOp := fun x y S Q => match x, y with
  | .int i, .int j => Q (g i j) S
  | _, _ => False
def aI (C : Int → Int → Prop) (g : Int → Int → A) : AOp := fun x y S Q => match x, y with
  | .int i, .int j => C i j ∧ Q (g i j) S
  | _, _ => False
section
variable {X : Cx} {f : Value → Value → Sem Value}
theorem oa_I0 {g : Int → Int → A} {g' : Int → Int → V} (h : OpR X f (rI0 g')) (r : ∀ i j H, RA X.K H (g i j) (g' i j)) : OpA X f (aI0 g) :=
  OpR.imp h fun v w H Q ⟨x, y, S, Q', rx, ry, rs, q, k⟩ => by
    unfold aI0 at q
    split at q
    · cases rx; cases ry; exact ⟨_, _, rfl, rfl, k _ H _ S (Tx.refl H) (r _ _ H) rs q⟩
    · exact q.elim
theorem oa_I {C : Int → Int → Prop} {g : Int → Int → A} {g' : Int → Int → V} (h : OpR X f (rI C g')) (r : ∀ i j H, RA X.K H (g i j) (g' i j)) : OpA X f (aI C g) :=
  OpR.imp h fun v w H Q ⟨x, y, S, Q', rx, ry, rs, q, k⟩ => by
    unfold aI at q
    split at q
    · cases rx; cases ry; exact ⟨_, _, rfl, rfl, q.1, k _ H _ S (Tx.refl H) (r _ _ H) rs q.2⟩
    · exact q.elim
/-- + of ints, texts, tuples, lists -/
def aAdd : AOp := fun x y S Q => match x, y with
  | .int i, .int j => Q (.int (i + j)) S
  | .str i, .str j => i.length + j.length ≤ sizeLine ∧ Q (.str (i ++ j)) S
  | .tup l, .tup m => l.length + m.length ≤ sizeLine ∧ Q (.tup (l ++ m)) S
  | .ref a, .ref b => match S a, S b with
    | some (.lst l), some (.lst m) => l.length + m.length ≤ sizeLine ∧ ∀ p, S p = none → Q (.ref p) (us S p (.lst (l ++ m)))
    | _, _ => False
  | _, _ => False
theorem oa_add : OpA X (binaryOp .Add) aAdd :=
  OpR.imp (OpR.or (OpR.or op_add op_add_str) (OpR.or op_catA op_cat)) fun v w H Q ⟨x, y, S, Q', rx, ry, rs, q, k⟩ => by
    unfold aAdd at q
    split at q
    · cases rx; cases ry
      exact .inl (.inl ⟨_, _, rfl, rfl, k _ H (.int _) S (Tx.refl H) rfl rs q⟩)
    · cases rx; cases ry
      exact .inl (.inr ⟨_, _, rfl, rfl, q.1, k _ H (.str _) S (Tx.refl H) rfl rs q.2⟩)
    · rename_i l m
      obtain ⟨a, vs, rfl, h1, h2⟩ := rx
      obtain ⟨b, ws, rfl, h3, h4⟩ := ry
      refine .inr (.inl ⟨a, b, vs, ws, rfl, rfl, h1, h3, by rw [h2.length, h4.length]; exact q.1, fun e => ?_, fun _ e => ?_, fun _ _ p hp => ?_⟩)
      · subst e
        have e1 : l = [] := by cases l with | nil => rfl | cons z l => obtain ⟨_, _, e, _⟩ := h2; cases e
        subst e1
        exact k _ H (.tup m) S (Tx.refl H) ⟨b, ws, rfl, h3, h4⟩ rs q.2
      · subst e
        have e1 : m = [] := by cases m with | nil => rfl | cons z l => obtain ⟨_, _, e, _⟩ := h4; cases e
        subst e1
        refine k _ H (.tup (l ++ [])) S (Tx.refl H) ⟨a, vs, rfl, h1, ?_⟩ rs q.2
        rw [List.append_nil]
        exact h2
      · exact k _ _ (.tup (l ++ m)) S (Tx.new hp) (ra_new hp (h2.append h4)) (rs.new hp) q.2
    · split at q
      · rename_i l m ea eb
        obtain ⟨vs, h1, h2⟩ := rs _ _ ea
        obtain ⟨ws, h3, h4⟩ := rs _ _ eb
        cases rx; cases ry
        refine .inr (.inr ⟨_, _, vs, ws, rfl, rfl, h1, h3, by rw [h2.length, h4.length]; exact q.1, fun p hp => ?_⟩)
        exact k _ _ (.ref p) _ (Tx.new hp) rfl (rs.make hp (rm_new hp (h2.append h4))) (q.2 p (rs.none hp))
      · exact q.elim
    · exact q.elim
def aSub : AOp := aI0 fun i j => .int (i - j)
theorem oa_sub : OpA X (binaryOp .Sub) aSub := oa_I0 op_sub fun _ _ _ => rfl
def aMul : AOp := aI CMul fun i j => .int (i * j)
theorem oa_mul : OpA X (binaryOp .Mult) aMul := oa_I op_mul fun _ _ _ => rfl
def aFdiv : AOp := aI CDiv fun i j => .int (i / j)
theorem oa_fdiv : OpA X (binaryOp .FloorDiv) aFdiv := oa_I op_fdiv fun _ _ _ => rfl
def aMod : AOp := aI (fun _ j => 0 < j) fun i j => .int (i % j)
theorem oa_mod : OpA X (binaryOp .Mod) aMod := oa_I op_mod fun _ _ _ => rfl
def aPow : AOp := aI CPow fun i j => .int (i ^ j.toNat)
theorem oa_pow : OpA X (binaryOp .Pow) aPow := oa_I op_pow fun _ _ _ => rfl
def aShl : AOp := aI CPow fun i j => .int (i * 2 ^ j.toNat)
theorem oa_shl : OpA X (binaryOp .LShift) aShl := oa_I op_shl fun _ _ _ => rfl
def aShr : AOp := aI (fun _ j => 0 ≤ j) fun i j => .int (i / 2 ^ j.toNat)
theorem oa_shr : OpA X (binaryOp .RShift) aShr := oa_I op_shr fun _ _ _ => rfl
def aBand : AOp := aI0 fun i j => .int (Builtin.bitAnd i j)
theorem oa_band : OpA X (binaryOp .BitAnd) aBand := oa_I0 op_and fun _ _ _ => rfl
def aBor : AOp := aI0 fun i j => .int (Builtin.bitOr i j)
theorem oa_bor : OpA X (binaryOp .BitOr) aBor := oa_I0 op_or fun _ _ _ => rfl
def aLt : AOp := aI0 fun i j => .bl (decide (i < j))
theorem oa_lt : OpA X (compareOp .Lt) aLt := oa_I0 op_lt fun _ _ _ => rfl
def aLe : AOp := aI0 fun i j => .bl (decide (i ≤ j))
theorem oa_le : OpA X (compareOp .LtE) aLe := oa_I0 op_le fun _ _ _ => rfl
def aGt : AOp := aI0 fun i j => .bl (decide (j < i))
theorem oa_gt : OpA X (compareOp .Gt) aGt := oa_I0 op_gt fun _ _ _ => rfl
def aGe : AOp := aI0 fun i j => .bl (decide (j ≤ i))
theorem oa_ge : OpA X (compareOp .GtE) aGe := oa_I0 op_ge fun _ _ _ => rfl
/-- -e -/
abbrev AUn := A → Store → AK → Prop
def aUn (r : AUn) (ta : ATE) : ATE := fun env S Q => ta env S fun x S1 => r x S1 Q
def aNeg : AUn := fun x S Q => match x with
  | .int i => Q (.int (-i)) S
  | _ => False
theorem ae_neg {a : Expr} {ta : ATE} {pos : Pos} (ha : AE X a ta) : AE X (.UnaryOp .USub a pos) (aUn aNeg ta) :=
  PE.imp (pe_un un_neg ha) fun σ H Q ⟨env, S, Q', rσ, rs, t, k⟩ => ⟨env, S, _, rσ, rs, t, fun v H1 x S1 t1 rx rs1 q1 => by
    cases x with
    | int i => cases rx; exact ⟨i, rfl, k _ H1 (.int (-i)) S1 t1 rfl rs1 q1⟩
    | _ => exact q1.elim⟩

/-! == at any depth -/
mutual
/-- the data of a value without references -/
def A.dat : A → Option PyData
  | .non => some .none
  | .bl b => some (.bool b)
  | .int i => some (.int i)
  | .str x => some (.str x)
  | .tup l => (A.dats l).map .tuple
  | .fl l => (A.dats l).map .list
  | .ref _ => none
def A.dats : List A → Option (List PyData)
  | [] => some []
  | x :: l => match A.dat x, A.dats l with
    | some d, some ds => some (d :: ds)
    | _, _ => none
end
mutual
theorem dp_of {K : PySem.W.Frag} {H : Hp} : ∀ (x : A) (v : V) (d : PyData), RA K H x v → A.dat x = some d → Dp K H v d
  | .non, _, _, r, e => by cases r; cases e; exact .non
  | .bl b, _, _, r, e => by cases r; cases e; exact .bl b
  | .int b, _, _, r, e => by cases r; cases e; exact .int b
  | .str b, _, _, r, e => by cases r; cases e; exact .str b
  | .tup l, _, _, ⟨a, vs, ev, h, hs⟩, e => by
    subst ev
    unfold A.dat at e
    cases q : A.dats l with
    | none => rw [q] at e; cases e
    | some ds => rw [q] at e; cases e; exact .tup h (dps_of l vs ds hs q)
  | .fl l, _, _, ⟨a, vs, ev, h, hs⟩, e => by
    subst ev
    unfold A.dat at e
    cases q : A.dats l with
    | none => rw [q] at e; cases e
    | some ds => rw [q] at e; cases e; exact .lst h.sq (dps_of l vs ds hs q)
  | .ref _, _, _, _, e => by cases e
theorem dps_of {K : PySem.W.Frag} {H : Hp} : ∀ (l : List A) (vs : List V) (ds : List PyData), RAs K H l vs → A.dats l = some ds → DpAll K H vs ds
  | [], _, _, h, e => by cases h; cases e; exact .nil
  | x :: l, _, _, ⟨v, r, ev, h, hs⟩, e => by
    subst ev
    unfold A.dats at e
    cases q1 : A.dat x with
    | none => rw [q1] at e; cases e
    | some d =>
      cases q2 : A.dats l with
      | none => rw [q1, q2] at e; cases e
      | some ds => rw [q1, q2] at e; cases e; exact .cons (dp_of x v d h q1) (dps_of l r ds hs q2)
end
/-- .. or of a list of such, that stands in the store -/
def datS (S : Store) : A → Option PyData
  | .ref a => match S a with
    | some (.lst l) => (A.dats l).map .list
    | _ => none
  | x => A.dat x
theorem dpS_of {K : PySem.W.Frag} {H : Hp} {S : Store} (rs : RS K S H) {x : A} {v : V} {d : PyData} (r : RA K H x v) (e : datS S x = some d) : Dp K H v d := by
  cases x with
  | ref a =>
    cases r
    have e : (match S a with | some (.lst l) => (A.dats l).map PyData.list | _ => none) = some d := e
    cases ea : S a with
    | none => rw [ea] at e; cases e
    | some m =>
      rw [ea] at e
      cases m with
      | lst l =>
        obtain ⟨vs, h1, h2⟩ := rs _ _ ea
        have e : (A.dats l).map PyData.list = some d := e
        cases q : A.dats l with
        | none => rw [q] at e; cases e
        | some ds => rw [q] at e; cases e; exact .lst (SqL.of h1) (dps_of l vs ds h2 q)
      | ins C fs => cases e
      | dk kvs => cases e
  | _ => exact dp_of _ v d r e
mutual
theorem dat_plain : ∀ (x : A) (d : PyData), A.dat x = some d → d.plain = true
  | .non, _, e => by cases e; rfl
  | .bl _, _, e => by cases e; rfl
  | .int _, _, e => by cases e; rfl
  | .str _, _, e => by cases e; rfl
  | .tup l, _, e => by
    unfold A.dat at e
    cases q : A.dats l with
    | none => rw [q] at e; cases e
    | some ds => rw [q] at e; cases e; simpa only [PyData.plain] using dats_plain l ds q
  | .fl l, _, e => by
    unfold A.dat at e
    cases q : A.dats l with
    | none => rw [q] at e; cases e
    | some ds => rw [q] at e; cases e; simpa only [PyData.plain] using dats_plain l ds q
  | .ref _, _, e => by cases e
theorem dats_plain : ∀ (l : List A) (ds : List PyData), A.dats l = some ds → PyData.plainAll ds = true
  | [], _, e => by cases e; rfl
  | x :: l, _, e => by
    unfold A.dats at e
    cases q1 : A.dat x with
    | none => rw [q1] at e; cases e
    | some d =>
      cases q2 : A.dats l with
      | none => rw [q1, q2] at e; cases e
      | some ds => rw [q1, q2] at e; cases e; rw [PyData.plainAll, dat_plain x d q1, dats_plain l ds q2]; rfl
end
theorem datS_plain {S : Store} {x : A} {d : PyData} (e : datS S x = some d) : d.plain = true := by
  cases x with
  | ref a =>
    have e : (match S a with | some (.lst l) => (A.dats l).map PyData.list | _ => none) = some d := e
    split at e
    · rename_i l _
      cases q : A.dats l with
      | none => rw [q] at e; cases e
      | some ds => rw [q] at e; cases e; simpa only [PyData.plain] using dats_plain l ds q
    · cases e
  | _ => exact dat_plain _ d e
def rEqP (K : PySem.W.Frag) : R2 := fun x y H Q => ∃ d e, Dp K H x d ∧ Dp K H y e ∧ d.plain = true ∧ e.plain = true ∧ min d.depth e.depth ≤ 64 ∧ Q (.bl (PyData.eqv d e)) H
def rNeP (K : PySem.W.Frag) : R2 := fun x y H Q => ∃ d e, Dp K H x d ∧ Dp K H y e ∧ d.plain = true ∧ e.plain = true ∧ min d.depth e.depth ≤ 64 ∧ Q (.bl (!PyData.eqv d e)) H
theorem op_eqP {X : Cx} (hu : X.A.units + 64 < cLine) : OpR X (compareOp .Eq) (rEqP X.K) := by
  intro pins s σ H x y v u Q I rx ry h
  obtain ⟨d, e, hd, he, sd, se, hm, q⟩ := h
  obtain ⟨as, r1⟩ := Dp.reads I d x v hd rx
  obtain ⟨bs, r2⟩ := Dp.reads I e y u he ry
  exact SeqAt.eq_plain r1 r2 sd se (by omega) ⟨.bl _, H, I, rfl, q⟩
theorem op_neP {X : Cx} (hu : X.A.units + 64 < cLine) : OpR X (compareOp .NotEq) (rNeP X.K) := by
  intro pins s σ H x y v u Q I rx ry h
  obtain ⟨d, e, hd, he, sd, se, hm, q⟩ := h
  obtain ⟨as, r1⟩ := Dp.reads I d x v hd rx
  obtain ⟨bs, r2⟩ := Dp.reads I e y u he ry
  exact SeqAt.ne_plain r1 r2 sd se (by omega) ⟨.bl _, H, I, rfl, q⟩
def eqGen (neg : Bool) : AOp := fun x y S Q => ∃ d e, datS S x = some d ∧ datS S y = some e ∧ min d.depth e.depth ≤ 64 ∧ Q (.bl (if neg = true then !PyData.eqv d e else PyData.eqv d e)) S
/-- ==, by what the two are -/
def aEq : AOp := fun x y S Q => match x, y with
  | .int i, .int j => Q (.bl (decide (i = j))) S
  | .str i, .str j => Q (.bl (decide (i = j))) S
  | .bl i, .bl j => Q (.bl (decide (i = j))) S
  | x, y => eqGen false x y S Q
def aNe : AOp := fun x y S Q => match x, y with
  | .int i, .int j => Q (.bl (!decide (i = j))) S
  | .str i, .str j => Q (.bl (!decide (i = j))) S
  | .bl i, .bl j => Q (.bl (!decide (i = j))) S
  | x, y => eqGen true x y S Q
theorem oa_eq (hu : X.A.units + 64 < cLine) : OpA X (compareOp .Eq) aEq :=
  OpR.imp (OpR.or op_eq (op_eqP hu)) fun v w H Q ⟨x, y, S, Q', rx, ry, rs, q, k⟩ => by
    unfold aEq at q
    split at q
    · rename_i i j
      cases rx; cases ry
      refine .inl ⟨rfl, ?_⟩
      rw [show decide (V.int i = V.int j) = decide (i = j) by simp]
      exact k _ H (.bl _) S (Tx.refl H) rfl rs q
    · rename_i i j
      cases rx; cases ry
      refine .inl ⟨rfl, ?_⟩
      rw [show decide (V.str i = V.str j) = decide (i = j) by simp]
      exact k _ H (.bl _) S (Tx.refl H) rfl rs q
    · rename_i i j
      cases rx; cases ry
      refine .inl ⟨rfl, ?_⟩
      rw [show decide (V.bl i = V.bl j) = decide (i = j) by simp]
      exact k _ H (.bl _) S (Tx.refl H) rfl rs q
    · obtain ⟨d, e, hd, he, hm, q⟩ := q
      exact .inr ⟨d, e, dpS_of rs rx hd, dpS_of rs ry he, datS_plain hd, datS_plain he, hm, k _ H (.bl _) S (Tx.refl H) rfl rs q⟩
theorem oa_ne (hu : X.A.units + 64 < cLine) : OpA X (compareOp .NotEq) aNe :=
  OpR.imp (OpR.or op_ne (op_neP hu)) fun v w H Q ⟨x, y, S, Q', rx, ry, rs, q, k⟩ => by
    unfold aNe at q
    split at q
    · rename_i i j
      cases rx; cases ry
      refine .inl ⟨rfl, ?_⟩
      rw [show decide (V.int i = V.int j) = decide (i = j) by simp]
      exact k _ H (.bl _) S (Tx.refl H) rfl rs q
    · rename_i i j
      cases rx; cases ry
      refine .inl ⟨rfl, ?_⟩
      rw [show decide (V.str i = V.str j) = decide (i = j) by simp]
      exact k _ H (.bl _) S (Tx.refl H) rfl rs q
    · rename_i i j
      cases rx; cases ry
      refine .inl ⟨rfl, ?_⟩
      rw [show decide (V.bl i = V.bl j) = decide (i = j) by simp]
      exact k _ H (.bl _) S (Tx.refl H) rfl rs q
    · obtain ⟨d, e, hd, he, hm, q⟩ := q
      exact .inr ⟨d, e, dpS_of rs rx hd, dpS_of rs ry he, datS_plain hd, datS_plain he, hm, k _ H (.bl _) S (Tx.refl H) rfl rs q⟩

/-! in -/
def flatA : A → Bool
  | .non => true
  | .bl _ => true
  | .int _ => true
  | .str _ => true
  | _ => false
def eqA : A → A → Bool
  | .non, .non => true
  | .bl a, .bl b => a == b
  | .bl a, .int b => (if a then 1 else 0) == b
  | .int a, .bl b => a == (if b then 1 else 0)
  | .int a, .int b => a == b
  | .str a, .str b => a == b
  | _, _ => false
theorem flat_v {K : PySem.W.Frag} {H : Hp} {x : A} {v : V} (r : RA K H x v) (h : flatA x = true) : flatV v = true := by
  cases x <;> first | (cases r; rfl) | (cases h; done)
theorem eqA_v {K : PySem.W.Frag} {H : Hp} {x y : A} {v w : V} (r : RA K H x v) (s : RA K H y w) (h : flatA x = true) (h' : flatA y = true) : eqV v w = eqA x y := by
  cases x <;> first | (cases h; done) | (cases y <;> first | (cases h'; done) | (cases r; cases s; rfl))
theorem flats_v {K : PySem.W.Frag} {H : Hp} : ∀ {l : List A} {vs : List V}, RAs K H l vs → l.all flatA = true → vs.all flatV = true
  | [], _, h, _ => by cases h; rfl
  | x :: l, _, ⟨v, r, e, h, hs⟩, q => by
    subst e
    rw [List.all_cons, Bool.and_eq_true] at q
    rw [List.all_cons, flat_v h q.1, flats_v hs q.2]
    rfl
theorem inA_v {K : PySem.W.Frag} {H : Hp} {x : A} {v : V} (rx : RA K H x v) (fx : flatA x = true) : ∀ {l : List A} {vs : List V}, RAs K H l vs → l.all flatA = true → inV v vs = l.any fun y => eqA y x
  | [], _, h, _ => by cases h; rfl
  | y :: l, _, ⟨w, r, e, h, hs⟩, q => by
    subst e
    rw [List.all_cons, Bool.and_eq_true] at q
    have ih := inA_v rx fx hs q.2
    unfold inV at ih ⊢
    rw [List.any_cons, List.any_cons, ih, eqA_v h rx q.1 fx]
def seqOf (S : Store) : A → Option (List A)
  | .tup l => some l
  | .fl l => some l
  | .ref a => match S a with
    | some (.lst l) => some l
    | _ => none
  | _ => none
/-- the sequence at a value -/
theorem seq_v {K : PySem.W.Frag} {H : Hp} {S : Store} (rs : RS K S H) {x : A} {v : V} {l : List A} (r : RA K H x v) (e : seqOf S x = some l) : ∃ p vs, v = .ref p ∧ (SqL K H p vs ∨ SqT K H p vs) ∧ RAs K H l vs := by
  cases x with
  | tup m => cases e; obtain ⟨a, vs, e, h1, h2⟩ := r; exact ⟨a, vs, e, .inr h1, h2⟩
  | fl m => cases e; obtain ⟨a, vs, e, h1, h2⟩ := r; exact ⟨a, vs, e, .inl h1.sq, h2⟩
  | ref a =>
    have e : (match S a with | some (.lst l) => some l | _ => none) = some l := e
    cases ea : S a with
    | none => rw [ea] at e; cases e
    | some m =>
      rw [ea] at e
      cases m with
      | lst m =>
        cases e
        cases r
        obtain ⟨vs, h1, h2⟩ := rs _ _ ea
        exact ⟨a, vs, rfl, .inl (SqL.of h1), h2⟩
      | ins C fs => cases e
      | dk kvs => cases e
  | _ => cases e
def aIn (neg : Bool) : AOp := fun x y S Q => match seqOf S y with
  | some l => flatA x = true ∧ l.all flatA = true ∧ Q (.bl (if neg = true then !l.any fun z => eqA z x else l.any fun z => eqA z x)) S
  | none => match x, y with
    | .str i, .str j => Q (.bl (if neg = true then (!(!(Builtin.Str.occurrences j i 0 j.length 1).isEmpty)) else (!(Builtin.Str.occurrences j i 0 j.length 1).isEmpty))) S
    | _, _ => False
theorem oa_in : OpA X (compareOp .In) (aIn false) :=
  OpR.imp (OpR.or op_in_seq op_in_str) fun v w H Q ⟨x, y, S, Q', rx, ry, rs, q, k⟩ => by
    unfold aIn at q
    split at q
    · rename_i l e
      obtain ⟨fx, fl, q⟩ := q
      obtain ⟨p, vs, rfl, hs, hr⟩ := seq_v rs ry e
      refine .inl ⟨p, vs, rfl, hs, flat_v rx fx, flats_v hr fl, k _ H (.bl _) S (Tx.refl H) ?_ rs q⟩
      show V.bl (inV v vs) = V.bl (l.any fun z => eqA z x)
      rw [inA_v rx fx hr fl]
    · split at q
      · cases rx; cases ry
        exact .inr ⟨_, _, rfl, rfl, k _ H (.bl _) S (Tx.refl H) rfl rs q⟩
      · exact q.elim
theorem oa_notIn : OpA X (compareOp .NotIn) (aIn true) :=
  OpR.imp (OpR.or op_notIn_seq op_notIn_str) fun v w H Q ⟨x, y, S, Q', rx, ry, rs, q, k⟩ => by
    unfold aIn at q
    split at q
    · rename_i l e
      obtain ⟨fx, fl, q⟩ := q
      obtain ⟨p, vs, rfl, hs, hr⟩ := seq_v rs ry e
      refine .inl ⟨p, vs, rfl, hs, flat_v rx fx, flats_v hr fl, k _ H (.bl _) S (Tx.refl H) ?_ rs q⟩
      show V.bl (!inV v vs) = V.bl (!l.any fun z => eqA z x)
      rw [inA_v rx fx hr fl]
    · split at q
      · cases rx; cases ry
        exact .inr ⟨_, _, rfl, rfl, k _ H (.bl _) S (Tx.refl H) rfl rs q⟩
      · exact q.elim
end
end WA

set_option Elab.async false
set_option maxRecDepth 100000
set_option maxHeartbeats 2000000
set_option linter.all false
namespace WA
open PySem L2

/-! ### 5. subscripts, slices -/
theorem atI_ra {K : PySem.W.Frag} {H : Hp} {l : List A} {vs : List V} {i : Int} {x : A} (r : RAs K H l vs) (e : atI l i = some x) : ∃ v, atI vs i = some v ∧ RA K H x v := by
  unfold atI at e ⊢
  rw [r.length]
  cases q : ixN l.length i with
  | none => rw [q] at e; cases e
  | some j =>
    rw [q] at e
    obtain ⟨v, h1, h2⟩ := r.get (i := j) (x := x) e
    exact ⟨v, h1, h2⟩
/-- x[i], of a sequence or a text -/
def ixAt (l : List A) (i : Int) (S : Store) (Q : AK) : Prop := match atI l i with
  | some z => Q z S
  | none => False
def ixSeq : Option (List A) → A → Int → Store → AK → Prop
  | some l, _, i, S, Q => ixAt l i S Q
  | none, .str z, i, S, Q => z.length ≤ sizeLine ∧ ∃ c, atI z.cps.toList i = some c ∧ Q (.str ⟨#[c]⟩) S
  | none, _, _, _, _ => False
def aIx : AOp := fun x y S Q => match y with
  | .int i => ixSeq (seqOf S x) x i S Q
  | _ => False
def IxA (X : Cx) (r : AOp) : Prop := IxR X (liftO X.K r)
theorem IxR.imp {X : Cx} {r r' : R2} (h : IxR X r) (i : ∀ v w H Q, r' v w H Q → r v w H Q) : IxR X r' :=
  fun value slice pins s σ H x y v u Q I rx ry q => h value slice pins s σ H x y v u Q I rx ry (i x y H Q q)
theorem ia_seq {X : Cx} : IxA X aIx := IxR.imp ix_seq fun v w H Q ⟨x, y, S, Q', rx, ry, rs, q, k⟩ => by
  cases y with
  | int i =>
    cases ry
    have q : ixSeq (seqOf S x) x i S Q' := q
    cases e : seqOf S x with
    | some l =>
      rw [e] at q
      obtain ⟨p, vs, rfl, hs, hr⟩ := seq_v rs rx e
      have q : ixAt l i S Q' := q
      unfold ixAt at q
      split at q
      · rename_i z e2
        obtain ⟨u, h1, h2⟩ := atI_ra hr e2
        have fin := k u H z S (Tx.refl H) h2 rs q
        rcases hs with hs | hs
        · exact .inl ⟨p, vs, i, u, rfl, rfl, hs, h1, fin⟩
        · exact .inr (.inl ⟨p, vs, i, u, rfl, rfl, hs, h1, fin⟩)
      · exact q.elim
    | none =>
      rw [e] at q
      cases x with
      | str z =>
        cases rx
        obtain ⟨hz, c, hc, q⟩ := q
        exact .inr (.inr ⟨z, i, c, rfl, rfl, hz, hc, k _ H (.str _) S (Tx.refl H) rfl rs q⟩)
      | _ => exact q.elim
  | _ => exact q.elim
theorem ae_ix {X : Cx} {a b : Expr} {ta tb : ATE} {pos : Pos} {r : AOp} (hr : IxA X r) (ha : AE X a ta) (hb : AE X b tb) (hs : PlainIx b := by exact fun _ _ => rfl) : AE X (.Subscript a b pos) (aOp r ta tb) := PE.imp (pe_ix hr ha hb hs) fun _ _ _ h => op_lift h

/-- the items of l[lo:hi] -/
def cut {α : Type} (xs : List α) (lo hi : Option Int) : List α := (xs.drop (HT.sIx xs.length 0 lo)).take (HT.sIx xs.length xs.length hi - HT.sIx xs.length 0 lo)
theorem cut_ra {K : PySem.W.Frag} {H : Hp} {l : List A} {vs : List V} (lo hi : Option Int) (r : RAs K H l vs) : RAs K H (cut l lo hi) (cutV vs lo hi) := by
  unfold cut cutV
  rw [r.length]
  exact RAs.take _ (RAs.drop _ r)
abbrev AO := Env' → Store → (Option Int → Store → Prop) → Prop
def liftOp (K : PySem.W.Frag) (t : AO) : TO := fun σ H Q => ∃ env S, ∃ Q' : Option Int → Store → Prop, Rσ K H env σ ∧ RS K S H ∧ t env S Q' ∧ ∀ o H' S', Tx H H' → RS K S' H' → Q' o S' → Q o H'
def AP (X : Cx) (e : Option Expr) (t : AO) : Prop := PO X e (liftOp X.K t)
theorem PO.imp {X : Cx} {e : Option Expr} {t u : TO} (h : PO X e t) (i : ∀ σ H Q, u σ H Q → t σ H Q) : PO X e u := ⟨fun pins s σ H Q I q => h.run pins s σ H Q I (i σ H Q q)⟩
def aNoPart : AO := fun _ S Q => Q none S
def aPart (t : ATE) : AO := fun env S Q => t env S fun x S1 => match x with
  | .int i => Q (some i) S1
  | _ => False
theorem ap_none {X : Cx} : AP X none aNoPart := PO.imp po_none fun σ H Q ⟨env, S, Q', rσ, rs, t, k⟩ => k none H S (Tx.refl H) rs t
theorem ap_some {X : Cx} {e : Expr} {te : ATE} (h : AE X e te) : AP X (some e) (aPart te) := PO.imp (po_some h) fun σ H Q ⟨env, S, Q', rσ, rs, t, k⟩ => ⟨env, S, _, rσ, rs, t, fun v H1 x S1 t1 rx rs1 q1 => by
  cases x with
  | int i => cases rx; exact ⟨i, rfl, k _ H1 S1 t1 rs1 q1⟩
  | _ => exact q1.elim⟩
abbrev ASlR := A → Option Int → Option Int → Store → AK → Prop
def liftSl (K : PySem.W.Frag) (r : ASlR) : V → Option Int → Option Int → Hp → VK → Prop := fun v lo hi H Q => ∃ x S, ∃ Q' : AK, RA K H x v ∧ RS K S H ∧ r x lo hi S Q' ∧ ∀ z H' a S', Tx H H' → RA K H' a z → RS K S' H' → Q' a S' → Q z H'
theorem SlR.imp {X : Cx} {r r' : V → Option Int → Option Int → Hp → VK → Prop} (h : SlR X r) (i : ∀ v lo hi H Q, r' v lo hi H Q → r v lo hi H Q) : SlR X r' :=
  fun pins s σ H x v vl vu lo hi sl Q I rx hs pl pu q => h pins s σ H x v vl vu lo hi sl Q I rx hs pl pu (i _ _ _ _ _ q)
/-- x[lo:hi] of a tuple, a list (a new one), a text -/
def aSlice : ASlR := fun x lo hi S Q => match x with
  | .tup l => Q (.tup (cut l lo hi)) S
  | .fl l => ∀ p, S p = none → Q (.ref p) (us S p (.lst (cut l lo hi)))
  | .ref a => (match S a with
    | some (.lst l) => ∀ p, S p = none → Q (.ref p) (us S p (.lst (cut l lo hi)))
    | _ => False)
  | .str z => z.length ≤ sizeLine ∧ Q (.str (cutS z lo hi)) S
  | _ => False
theorem cut_whole {α : Type} {l : List α} {lo hi : Option Int} (h : HT.sIx l.length 0 lo = 0 ∧ HT.sIx l.length l.length hi = l.length) : cut l lo hi = l := by
  unfold cut
  rw [h.1, h.2]
  simp
theorem sa_slice {X : Cx} : SlR X (liftSl X.K aSlice) := SlR.imp (SlR.or (SlR.or sl_tupA sl_list) sl_str) fun v lo hi H Q ⟨x, S, Q', rx, rs, q, k⟩ => by
  cases x with
  | tup l =>
    obtain ⟨a, vs, rfl, h1, h2⟩ := rx
    refine .inl (.inl ⟨a, vs, rfl, h1, fun hw => ?_, fun _ p hp => ?_⟩)
    · rw [h2.length] at hw
      have q : Q' (.tup (cut l lo hi)) S := q
      rw [cut_whole hw] at q
      exact k _ H (.tup l) S (Tx.refl H) ⟨a, vs, rfl, h1, h2⟩ rs q
    · exact k _ _ (.tup (cut l lo hi)) S (Tx.new hp) (ra_new hp (cut_ra lo hi h2)) (rs.new hp) q
  | fl l =>
    obtain ⟨a, vs, rfl, h1, h2⟩ := rx
    exact .inl (.inr ⟨a, vs, rfl, h1.sq, fun p hp => k _ _ (.ref p) _ (Tx.new hp) rfl (rs.make hp (rm_new hp (cut_ra lo hi h2))) (q p (rs.none hp))⟩)
  | ref a =>
    cases rx
    have q : (match S a with | some (.lst l) => ∀ p, S p = none → Q' (.ref p) (us S p (.lst (cut l lo hi))) | _ => False) := q
    cases e : S a with
    | none => rw [e] at q; exact q.elim
    | some m =>
      rw [e] at q
      cases m with
      | lst l =>
        obtain ⟨vs, h1, h2⟩ := rs _ _ e
        exact .inl (.inr ⟨a, vs, rfl, SqL.of h1, fun p hp => k _ _ (.ref p) _ (Tx.new hp) rfl (rs.make hp (rm_new hp (cut_ra lo hi h2))) (q p (rs.none hp))⟩)
      | _ => exact q.elim
  | str z =>
    cases rx
    exact .inr ⟨z, rfl, q.1, k _ H (.str _) S (Tx.refl H) rfl rs q.2⟩
  | _ => exact q.elim
def aSl (r : ASlR) (te : ATE) (tl th : AO) : ATE := fun env S Q => te env S fun x S1 => tl env S1 fun l S2 => th env S2 fun u S3 => r x l u S3 Q
theorem ae_slice {X : Cx} {e : Expr} {lo hi : Option Expr} {te : ATE} {tl th : AO} {p2 pos : Pos} (he : AE X e te) (hl : AP X lo tl) (hu : AP X hi th) : AE X (.Subscript e (.Slice lo hi none p2) pos) (aSl aSlice te tl th) :=
  PE.imp (pe_slice sa_slice he hl hu) fun σ H Q ⟨env, S, Q', rσ, rs, t, k⟩ => ⟨env, S, _, rσ, rs, t, fun v H1 x S1 t1 rx rs1 q1 => ⟨env, S1, _, rσ.mono t1, rs1, q1, fun l H2 S2 t2 rs2 q2 =>
    ⟨env, S2, _, (rσ.mono t1).mono t2, rs2, q2, fun u H3 S3 t3 rs3 q3 => ⟨x, S3, Q', RA.mono t3 _ _ (RA.mono t2 _ _ rx), rs3, q3, fun z H4 a S4 t4 => k z H4 a S4 (((t1.trans t2).trans t3).trans t4)⟩⟩⟩⟩

/-! ### 6. calls of built-ins, methods of lists -/
abbrev AC := List A → Store → AK → Prop
def liftC (K : PySem.W.Frag) (r : AC) : List V → Hp → VK → Prop := fun vs H Q => ∃ xs S, ∃ Q' : AK, RAs K H xs vs ∧ RS K S H ∧ r xs S Q' ∧ ∀ z H' a S', Tx H H' → RA K H' a z → RS K S' H' → Q' a S' → Q z H'
def CallA (X : Cx) (f : Value) (r : AC) : Prop := CallR X f (liftC X.K r)
theorem CallR.imp {X : Cx} {f : Value} {r r' : List V → Hp → VK → Prop} (h : CallR X f r) (i : ∀ vs H Q, r' vs H Q → r vs H Q) : CallR X f r' := fun pins s σ H xs us Q I r q => h pins s σ H xs us Q I r (i _ _ _ q)
def aCB (r : AC) (t : ATA) : ATE := fun env S Q => t env S fun xs S1 => r xs S1 Q
theorem cb_lift {K : PySem.W.Frag} {r : AC} {t : ATA} {σ : L2.St} {H : Hp} {Q : VK} (h : liftE K (aCB r t) σ H Q) : tCB (liftC K r) (liftA K t) σ H Q := by
  obtain ⟨env, S, Q', rσ, rs, t, k⟩ := h
  exact ⟨env, S, _, rσ, rs, t, fun vs H1 xs S1 t1 rx rs1 q1 => ⟨xs, S1, Q', rx, rs1, q1, fun z H2 a S2 t2 => k z H2 a S2 (t1.trans t2)⟩⟩
section
variable {X : Cx} {e : Expr} {es : List Expr} {t : ATA} {x : Str} {p pos : Pos} {r : AC} {id T : String}
theorem ae_callB (hc : CallA X (.builtin id) r) (hg : Gl X x) (hm : X.mg x = none) (hv : bootBuiltins x = some (.builtin id)) (ha : AA X (e :: es) t) (hn : x ≠ "__name__" := by decide) (hdb : (x == ("__debug__" : Str)) = false := by decide)
    (he : starEach (e :: es) X.env = (false, eval e X.env) :: starEach es X.env := by rfl) (hpl : (backTo pos (starEach es X.env)).any (·.1) = false := by rfl) : AE X (.Call (.Name x p) (e :: es) [] pos) (aCB r t) :=
  PE.imp (pe_callB hc hg hm hv ha hn hdb he hpl) fun _ _ _ h => cb_lift h
theorem ae_callTy (hc : CallA X (.type T) r) (hg : Gl X x) (hm : X.mg x = none) (hv : bootBuiltins x = some (.type T)) (ha : AA X (e :: es) t) (hn : x ≠ "__name__" := by decide) (hdb : (x == ("__debug__" : Str)) = false := by decide)
    (he : starEach (e :: es) X.env = (false, eval e X.env) :: starEach es X.env := by rfl) (hpl : (backTo pos (starEach es X.env)).any (·.1) = false := by rfl) : AE X (.Call (.Name x p) (e :: es) [] pos) (aCB r t) :=
  PE.imp (pe_callTy hc hg hm hv ha hn hdb he hpl) fun _ _ _ h => cb_lift h
/-- len -/
def aLen : AC := fun xs S Q => match xs with
  | [.str z] => z.length ≤ sizeLine ∧ Q (.int (z.length : Nat)) S
  | [x] => (match seqOf S x with
    | some l => Q (.int (l.length : Nat)) S
    | none => False)
  | _ => False
theorem ca_len : CallA X (.builtin "len") aLen := CallR.imp (CallR.or call_len_seq call_len_str) fun vs H Q ⟨xs, S, Q', rx, rs, q, k⟩ => by
  unfold aLen at q
  split at q
  · obtain ⟨v, rfl, h1⟩ := rx.one
    cases h1
    exact .inr ⟨_, rfl, q.1, k _ H (.int _) S (Tx.refl H) rfl rs q.2⟩
  · rename_i x _
    obtain ⟨v, rfl, h1⟩ := rx.one
    cases e : seqOf S x with
    | none => rw [e] at q; exact q.elim
    | some l =>
      rw [e] at q
      obtain ⟨p, vs, rfl, hs, hr⟩ := seq_v rs h1 e
      exact .inl ⟨p, vs, rfl, hs, by rw [hr.length]; exact k _ H (.int _) S (Tx.refl H) rfl rs q⟩
  · exact q.elim
/-- list(x) -/
def aList : AC := fun xs S Q => match xs with
  | [x] => (match seqOf S x with
    | some l => ∀ p, S p = none → Q (.ref p) (us S p (.lst l))
    | none => False)
  | _ => False
theorem ca_list : CallA X (.type "list") aList := CallR.imp call_list_of fun vs H Q ⟨xs, S, Q', rx, rs, q, k⟩ => by
  unfold aList at q
  split at q
  · rename_i x
    obtain ⟨v, rfl, h1⟩ := rx.one
    cases e : seqOf S x with
    | none => rw [e] at q; exact q.elim
    | some l =>
      rw [e] at q
      obtain ⟨p, vs, rfl, hs, hr⟩ := seq_v rs h1 e
      exact ⟨p, vs, rfl, hs, fun l hl => k _ _ (.ref l) _ (Tx.new hl) rfl (rs.make hl (rm_new hl hr)) (q l (rs.none hl))⟩
  · exact q.elim
/-- tuple(x) -/
def aTuple : AC := fun xs S Q => match xs with
  | [x] => (match seqOf S x with
    | some l => Q (.tup l) S
    | none => False)
  | _ => False
theorem ca_tuple : CallA X (.type "tuple") aTuple := CallR.imp call_tuple_of fun vs H Q ⟨xs, S, Q', rx, rs, q, k⟩ => by
  unfold aTuple at q
  split at q
  · rename_i x
    obtain ⟨v, rfl, h1⟩ := rx.one
    cases e : seqOf S x with
    | none => rw [e] at q; exact q.elim
    | some l =>
      rw [e] at q
      obtain ⟨p, vs, rfl, hs, hr⟩ := seq_v rs h1 e
      refine ⟨p, vs, rfl, ?_⟩
      rcases hs with hs | hs
      · exact .inl ⟨hs, fun l hl => k _ _ (.tup _) S (Tx.new hl) (ra_new hl hr) (rs.new hl) q⟩
      · exact .inr ⟨hs, k _ H (.tup l) S (Tx.refl H) ⟨p, vs, rfl, hs, hr⟩ rs q⟩
  · exact q.elim
/-- int(x) of an int, a bool -/
def aInt : AC := fun xs S Q => match xs with
  | [.int i] => Q (.int i) S
  | [.bl b] => Q (.int (if b then 1 else 0)) S
  | _ => False
theorem ca_int : CallA X (.type "int") aInt := CallR.imp call_int1 fun vs H Q ⟨xs, S, Q', rx, rs, q, k⟩ => by
  unfold aInt at q
  split at q
  · obtain ⟨v, rfl, h1⟩ := rx.one
    cases h1
    exact .inl ⟨_, rfl, k _ H (.int _) S (Tx.refl H) rfl rs q⟩
  · obtain ⟨v, rfl, h1⟩ := rx.one
    cases h1
    exact .inr ⟨_, rfl, k _ H (.int _) S (Tx.refl H) rfl rs q⟩
  · exact q.elim

abbrev AM := A → List A → Store → AK → Prop
def liftM (K : PySem.W.Frag) (r : AM) : V → List V → Hp → VK → Prop := fun v vs H Q => ∃ x xs S, ∃ Q' : AK, RA K H x v ∧ RAs K H xs vs ∧ RS K S H ∧ r x xs S Q' ∧ ∀ z H' a S', Tx H H' → RA K H' a z → RS K S' H' → Q' a S' → Q z H'
def MtA (X : Cx) (id : String) (r : AM) : Prop := MtR X id (liftM X.K r)
theorem MtR.imp {r r' : V → List V → Hp → VK → Prop} (h : MtR X id r) (i : ∀ v vs H Q, r' v vs H Q → r v vs H Q) : MtR X id r' := fun pins s σ H x xs v us Q I rx rxs q => h pins s σ H x xs v us Q I rx rxs (i _ _ _ _ q)
def isLst (S : Store) : A → Prop
  | .ref a => ∃ l, S a = some (.lst l)
  | _ => False
def aMeth (P : Store → A → Prop) (r : AM) (to : ATE) (t : ATA) : ATE := fun env S Q => to env S fun x S1 => P S1 x ∧ t env S1 fun xs S2 => r x xs S2 Q
theorem lst_ty {K : PySem.W.Frag} {H : Hp} {S : Store} {x : A} {v : V} (rs : RS K S H) (r : RA K H x v) (h : isLst S x) : tyV K "list" v H := by
  cases x with
  | ref a =>
    obtain ⟨l, e⟩ := h
    obtain ⟨vs, h1, _⟩ := rs _ _ e
    cases r
    exact .inl ⟨rfl, vs, SqL.of h1⟩
  | _ => exact h.elim
variable {o : Expr} {to : ATE} {name : Str} {apos cpos : Pos} {rm : AM}
/-- o.name(e, ..), o a list -/
theorem ae_lm (slot : Slot "list" name id) (hty : typeOf (.builtin id) = pure (.type "method_descriptor")) (hm : MtA X id rm) (ho : AE X o to) (ha : AA X (e :: es) t)
    (hbase : attributeBase o name X.env (eval o X.env) = eval o X.env := by rfl)
    (hfew : ((backTo cpos (starEach (e :: es) X.env)).all (fun x => !x.1) && (backToKw cpos (keywordEach [] X.env)).all (fun x => x.1.isSome)
      && decide ((e :: es).length + ([] : List Keyword).length + (if ([] : List Keyword).isEmpty then 0 else 1) < 30)) = true := by rfl)
    (hline : (apos.endLine == cpos.line) = true := by rfl) (hs : starEach (e :: es) X.env = (false, eval e X.env) :: starEach es X.env := by rfl) (hpl : (backTo cpos (starEach es X.env)).any (·.1) = false := by rfl) : AE X (.Call (.Attribute o name apos) (e :: es) [] cpos) (aMeth isLst rm to t) :=
  PE.imp (pe_bm PySem.F.plainAttrs_list slot hty hm ho ha hbase hfew hline hs hpl) fun σ H Q ⟨env, S, Q', rσ, rs, t, k⟩ => ⟨env, S, _, rσ, rs, t, fun v H1 x S1 t1 rx rs1 ⟨ty, q1⟩ =>
    ⟨lst_ty rs1 rx ty, env, S1, _, rσ.mono t1, rs1, q1, fun vs H2 xs S2 t2 rxs rs2 q2 => ⟨x, xs, S2, Q', RA.mono t2 _ _ rx, rxs, rs2, q2, fun z H3 a S3 t3 => k z H3 a S3 ((t1.trans t2).trans t3)⟩⟩⟩
theorem ae_lm0 (slot : Slot "list" name id) (hty : typeOf (.builtin id) = pure (.type "method_descriptor")) (hm : MtA X id rm) (ho : AE X o to)
    (hbase : attributeBase o name X.env (eval o X.env) = eval o X.env := by rfl) (hline : (apos.endLine == cpos.line) = true := by rfl) : AE X (.Call (.Attribute o name apos) [] [] cpos) (aMeth isLst rm to aNil) :=
  PE.imp (pe_bm0 PySem.F.plainAttrs_list slot hty hm ho hbase hline) fun σ H Q ⟨env, S, Q', rσ, rs, t, k⟩ => ⟨env, S, _, rσ, rs, t, fun v H1 x S1 t1 rx rs1 ⟨ty, q1⟩ =>
    ⟨lst_ty rs1 rx ty, x, [], S1, Q', rx, rfl, rs1, q1, fun z H3 a S3 t3 => k z H3 a S3 (t1.trans t3)⟩⟩
def aAppend : AM := fun x xs S Q => match x, xs with
  | .ref a, [y] => (match S a with
    | some (.lst l) => l.length < sizeLine ∧ Q .non (us S a (.lst (l ++ [y])))
    | _ => False)
  | _, _ => False
theorem rm_put {K : PySem.W.Frag} {H : Hp} {p : Addr} {xs : List A} {vs : List V} {ws : List V} (h : H p = some (.lst ws)) (r : RAs K H xs vs) : RM K (upd H p (.lst vs)) p (.lst xs) := ⟨vs, upd_same, RAs.mono (Tx.put h trivial) _ _ r⟩
theorem ma_append : MtA X "list.append" aAppend := MtR.imp mt_append fun v vs H Q ⟨x, xs, S, Q', rx, rxs, rs, q, k⟩ => by
  unfold aAppend at q
  split at q
  · rename_i a y
    cases rx
    obtain ⟨w, rfl, h1⟩ := rxs.one
    split at q
    · rename_i l e
      obtain ⟨us, h2, h3⟩ := rs _ _ e
      exact ⟨a, us, w, rfl, rfl, h2, by rw [h3.length]; exact q.1, k _ _ .non _ (Tx.put h2 trivial) rfl (rs.put h2 trivial (rm_put h2 (h3.append (RAs.cons h1 RAs.nil)))) q.2⟩
    · exact q.elim
  · exact q.elim
def aExtend : AM := fun x xs S Q => match x, xs with
  | .ref a, [.ref b] => (match S a, S b with
    | some (.lst l), some (.lst m) => l.length + m.length ≤ sizeLine ∧ Q .non (us S a (.lst (l ++ m)))
    | _, _ => False)
  | _, _ => False
theorem ma_extend : MtA X "list.extend" aExtend := MtR.imp mt_extend fun v vs H Q ⟨x, xs, S, Q', rx, rxs, rs, q, k⟩ => by
  unfold aExtend at q
  split at q
  · rename_i a b
    cases rx
    obtain ⟨w, rfl, h1⟩ := rxs.one
    cases h1
    split at q
    · rename_i l m e e2
      obtain ⟨us, h2, h3⟩ := rs _ _ e
      obtain ⟨ws, h4, h5⟩ := rs _ _ e2
      exact ⟨a, b, us, ws, rfl, rfl, h2, h4, by rw [h3.length, h5.length]; exact q.1, k _ _ .non _ (Tx.put h2 trivial) rfl (rs.put h2 trivial (rm_put h2 (h3.append h5))) q.2⟩
    · exact q.elim
  · exact q.elim
/-- pop(), pop(i) -/
def aPop : AM := fun x xs S Q => match x, xs with
  | .ref a, [] => (match S a with
    | some (.lst l) => ∃ y, l[l.length - 1]? = some y ∧ Q y (us S a (.lst l.dropLast))
    | _ => False)
  | .ref a, [.int i] => (match S a with
    | some (.lst l) => -(2 ^ 63) ≤ i ∧ i < 2 ^ 63 ∧ ∃ k y, seqIndex? i l.length = some k ∧ l[k]? = some y ∧ Q y (us S a (.lst (l.eraseIdx k)))
    | _ => False)
  | _, _ => False
theorem RAs.dropLast {K : PySem.W.Frag} {H : Hp} {l : List A} {vs : List V} (r : RAs K H l vs) : RAs K H l.dropLast vs.dropLast := by
  rw [List.dropLast_eq_take, List.dropLast_eq_take, r.length]
  exact r.take _
theorem ma_pop : MtA X "list.pop" aPop := MtR.imp (MtR.or mt_pop mt_popAt) fun v vs H Q ⟨x, xs, S, Q', rx, rxs, rs, q, k⟩ => by
  unfold aPop at q
  split at q
  · rename_i a
    cases rx
    cases rxs
    split at q
    · rename_i l e
      obtain ⟨us, h2, h3⟩ := rs _ _ e
      obtain ⟨y, hy, q⟩ := q
      obtain ⟨u, hu, ru⟩ := h3.get hy
      exact .inl ⟨a, us, u, rfl, rfl, h2, by rw [h3.length]; exact hu, k _ _ y _ (Tx.put h2 trivial) (RA.mono (Tx.put h2 trivial) _ _ ru) (rs.put h2 trivial (rm_put h2 h3.dropLast)) q⟩
    · exact q.elim
  · rename_i a i
    cases rx
    obtain ⟨w, rfl, h1⟩ := rxs.one
    cases h1
    split at q
    · rename_i l e
      obtain ⟨us, h2, h3⟩ := rs _ _ e
      obtain ⟨q1, q2, j, y, hj, hy, q⟩ := q
      obtain ⟨u, hu, ru⟩ := h3.get hy
      exact .inr ⟨a, us, i, j, u, rfl, rfl, h2, q1, q2, by rw [h3.length]; exact hj, hu, k _ _ y _ (Tx.put h2 trivial) (RA.mono (Tx.put h2 trivial) _ _ ru) (rs.put h2 trivial (rm_put h2 (h3.eraseIdx j))) q⟩
    · exact q.elim
  · exact q.elim
end

/-! ### 7. calls of the module's defs -/
abbrev ASp := List A → Store → AK → Prop
def liftSp (K : PySem.W.Frag) (sp : ASp) : Sp := fun vs H Q _ => ∃ xs S, ∃ Q' : AK, RAs K H xs vs ∧ RS K S H ∧ sp xs S Q' ∧ ∀ z H' a S', Tx H H' → RA K H' a z → RS K S' H' → Q' a S' → Q z H'
/-- a def that may be called: it keeps the promise sp, by level k at most -/
structure Fn (P : Program) (w : World) (K : PySem.W.Frag) (mg : Str → Option Value) (base : Heap) (k : Nat) (x : Str) (f : Addr) (sp : ASp) : Prop where
  ex : ∃ (fd : FuncData) (ps : List Str), FnOk P w K mg base CX0 k f fd ps (liftSp K sp) ∧ mg x = some (.ref f) ∧ PySem.W.keepIn K (.ref f) = true ∧ Binds K fd ps []
theorem Fn.mono {P : Program} {w : World} {K : PySem.W.Frag} {mg : Str → Option Value} {base : Heap} {k j : Nat} {x : Str} {f : Addr} {sp : ASp} (F : Fn P w K mg base k x f sp) (h : k ≤ j) : Fn P w K mg base j x f sp :=
  let ⟨fd, ps, F, m, kp, b⟩ := F.ex; ⟨fd, ps, F.mono h, m, kp, b⟩
theorem Fn.imp {P : Program} {w : World} {K : PySem.W.Frag} {mg : Str → Option Value} {base : Heap} {k : Nat} {x : Str} {f : Addr} {sp sp' : ASp} (F : Fn P w K mg base k x f sp) (h : ∀ xs S Q, sp' xs S Q → sp xs S Q) : Fn P w K mg base k x f sp' :=
  let ⟨fd, ps, F, m, kp, b⟩ := F.ex
  ⟨fd, ps, F.imp fun vs H Q E ⟨xs, S, Q', r, rs, q, kk⟩ => ⟨xs, S, Q', r, rs, h xs S Q' q, kk⟩, m, kp, b⟩
def aCall (sp : ASp) (t : ATA) : ATE := fun env S Q => t env S fun xs S1 => sp xs S1 Q
section
variable {X : Cx} {e : Expr} {es : List Expr} {t : ATA} {x : Str} {p pos : Pos} {sp : ASp} {k j : Nat} {f : Addr}
theorem ae_call (c : Fn X.prog X.w X.K X.mg X.base k x f sp) (hr : Room j X.A) (hk : k ≤ j) (hg : Gl X x) (ha : AA X (e :: es) t)
    (hdb : (x == ("__debug__" : Str)) = false := by decide) (he : starEach (e :: es) X.env = (false, eval e X.env) :: starEach es X.env := by rfl) (hpl : (backTo pos (starEach es X.env)).any (·.1) = false := by rfl) :
    AE X (.Call (.Name x p) (e :: es) [] pos) (aCall sp t) := by
  obtain ⟨fd, ps, F, hm, kp, b⟩ := c.ex
  exact PE.imp (pe_call (E := E0) F (hr.mono hk) hg hm kp b .nil pass0 ha hdb he hpl) fun σ H Q ⟨env, S, Q', rσ, rs, t, kk⟩ => ⟨env, S, _, rσ, rs, t, fun vs H1 xs S1 t1 rx rs1 q1 =>
    ⟨xs, S1, Q', by rw [List.append_nil]; exact rx, rs1, q1, fun z H2 a S2 t2 => kk z H2 a S2 (t1.trans t2)⟩⟩
theorem ae_call0 (c : Fn X.prog X.w X.K X.mg X.base k x f sp) (hr : Room j X.A) (hk : k ≤ j) (hg : Gl X x)
    (hdb : (x == ("__debug__" : Str)) = false := by decide) : AE X (.Call (.Name x p) [] [] pos) (aCall sp aNil) := by
  obtain ⟨fd, ps, F, hm, kp, b⟩ := c.ex
  exact PE.imp (pe_call0 (E := E0) F (hr.mono hk) hg hm kp b .nil pass0 hdb) fun σ H Q ⟨env, S, Q', rσ, rs, t, kk⟩ => ⟨[], S, Q', rfl, rs, t, kk⟩
/-- the same of a local name that holds one of two defs -/
def aCallV (i : Nat) (f1 f2 : Addr) (sp1 sp2 : ASp) (t : ATA) : ATE := fun env S Q => match env[i]? with
  | some (some (.ref g)) => (g = f1 ∧ t env S fun xs S1 => sp1 xs S1 Q) ∨ (g = f2 ∧ t env S fun xs S1 => sp2 xs S1 Q)
  | _ => False
theorem ae_callV {i k1 k2 : Nat} {f1 f2 : Addr} {x1 x2 : Str} {sp1 sp2 : ASp} (c1 : Fn X.prog X.w X.K X.mg X.base k1 x1 f1 sp1) (c2 : Fn X.prog X.w X.K X.mg X.base k2 x2 f2 sp2) (hr : Room j X.A) (hk1 : k1 ≤ j) (hk2 : k2 ≤ j) (ha : AA X (e :: es) t)
    (hN : X.N[i]? = some x := by rfl) (hv : Vis X.env.scope x := by first | exact Or.inl rfl | exact Or.inr (Or.inl rfl) | exact Or.inr (Or.inr rfl))
    (hd : (x == ("__debug__" : Str)) = false := by decide) (hcd : (x == ("__classdict__" : Str)) = false := by decide)
    (he : starEach (e :: es) X.env = (false, eval e X.env) :: starEach es X.env := by rfl) (hpl : (backTo pos (starEach es X.env)).any (·.1) = false := by rfl) :
    AE X (.Call (.Name x p) (e :: es) [] pos) (aCallV i f1 f2 sp1 sp2 t) := by
  obtain ⟨fd1, ps1, F1, _, kp1, b1⟩ := c1.ex
  obtain ⟨fd2, ps2, F2, _, kp2, b2⟩ := c2.ex
  have d1 : C8.CalAt X.prog X.w X.K X.mg X.base k1 f1 (liftSp X.K sp1) := ⟨fd1, ps1, F1, kp1, b1⟩
  have d2 : C8.CalAt X.prog X.w X.K X.mg X.base k2 f2 (liftSp X.K sp2) := ⟨fd2, ps2, F2, kp2, b2⟩
  refine PE.imp (C8.pe_cv (pos := pos) d1 d2 hr hk1 hk2 hN hv ha hd hcd he hpl) fun σ H Q ⟨env, S, Q', rσ, rs, t, kk⟩ => ?_
  unfold aCallV at t
  split at t
  · rename_i g hg
    obtain ⟨v, h1, h2⟩ := rσ.get i _ hg
    cases h2
    rcases t with ⟨rfl, t⟩ | ⟨rfl, t⟩
    · exact .inl ⟨h1, env, S, _, rσ, rs, t, fun vs H1 xs S1 t1 rx rs1 q1 => ⟨xs, S1, Q', rx, rs1, q1, fun z H2 a S2 t2 => kk z H2 a S2 (t1.trans t2)⟩⟩
    · exact .inr ⟨h1, env, S, _, rσ, rs, t, fun vs H1 xs S1 t1 rx rs1 q1 => ⟨xs, S1, Q', rx, rs1, q1, fun z H2 a S2 t2 => kk z H2 a S2 (t1.trans t2)⟩⟩
  · exact t.elim
end

/-! ### 8. statements -/
def aSkip : ATS := fun D env S => D.nx env S
def aSeq (t u : ATS) : ATS := fun D env S => t { D with nx := u D } env S
def aDrop (te : ATE) : ATS := fun D env S => te env S fun _ S1 => D.nx env S1
def aRet (te : ATE) : ATS := fun D env S => te env S D.rt
def aRetN : ATS := fun D _ S => D.rt .non S
def aIfS (c : ATT) (t u : ATS) : ATS := fun D env S => c env S fun b S1 => if b = true then t D env S1 else u D env S1
def aSet (i : Nat) (te : ATE) : ATS := fun D env S => te env S fun x S1 => D.nx (env.set i (some x)) S1
def aBreak : ATS := fun D env S => D.bk env S
def aCont : ATS := fun D env S => D.ct env S
section
variable {X : Cx} {s : Stmt} {ss : List Stmt} {t u : ATS} {e c : Expr} {te : ATE} {tc : ATT} {pos : Pos}
theorem ass_nil : ASs X [] aSkip := PSs.imp pss_nil fun D σ H ⟨env, S, D', rσ, rs, q, d⟩ => d.nx env S σ H (Tx.refl H) rσ rs q
theorem ass_one (h : AS X s t) : ASs X [s] t := pss_one h
theorem ass_cons (h : AS X s t) (hr : ASs X ss u) : ASs X (s :: ss) (aSeq t u) :=
  PSs.imp (pss_cons h hr) fun D σ H ⟨env, S, D', rσ, rs, q, d⟩ => ⟨env, S, { D' with nx := u D' }, rσ, rs, q,
    ⟨fun env1 S1 σ1 H1 t1 rσ1 rs1 q1 => ⟨env1, S1, D', rσ1, rs1, q1, d.mono t1⟩, d.rt, d.bk, d.ct⟩⟩
theorem as_pass : AS X (.Pass pos) aSkip := PS.imp ps_pass fun D σ H ⟨env, S, D', rσ, rs, q, d⟩ => d.nx env S σ H (Tx.refl H) rσ rs q
theorem as_break : AS X (.Break pos) aBreak := PS.imp ps_break fun D σ H ⟨env, S, D', rσ, rs, q, d⟩ => d.bk env S σ H (Tx.refl H) rσ rs q
theorem as_continue : AS X (.Continue pos) aCont := PS.imp ps_continue fun D σ H ⟨env, S, D', rσ, rs, q, d⟩ => d.ct env S σ H (Tx.refl H) rσ rs q
theorem as_expr (h : AE X e te) (hs : swapsWith e none pos.line X.env = pure false := by rfl) : AS X (.Expr e pos) (aDrop te) :=
  PS.imp (ps_expr h hs) fun D σ H ⟨env, S, D', rσ, rs, q, d⟩ => ⟨env, S, _, rσ, rs, q, fun v H1 x S1 t1 rx rs1 q1 => d.nx env S1 σ H1 t1 (rσ.mono t1) rs1 q1⟩
theorem as_ret (h : AE X e te) : AS X (.Return (some e) pos) (aRet te) :=
  PS.imp (ps_ret h) fun D σ H ⟨env, S, D', rσ, rs, q, d⟩ => ⟨env, S, _, rσ, rs, q, fun v H1 x S1 t1 rx rs1 q1 => d.rt x S1 v H1 t1 rx rs1 q1⟩
theorem as_retN : AS X (.Return none pos) aRetN := PS.imp ps_retN fun D σ H ⟨env, S, D', rσ, rs, q, d⟩ => d.rt .non S .non H (Tx.refl H) rfl rs q
theorem as_if {a b : List Stmt} (hc : AT X c tc) (ht : ASs X a t) (hu : ASs X b u) : AS X (.If c a b pos) (aIfS tc t u) :=
  PS.imp (ps_if hc ht hu) fun D σ H ⟨env, S, D', rσ, rs, q, d⟩ => ⟨env, S, _, rσ, rs, q, fun b H1 S1 t1 rs1 q1 => by
    cases b with
    | true => exact ⟨env, S1, D', rσ.mono t1, rs1, q1, d.mono t1⟩
    | false => exact ⟨env, S1, D', rσ.mono t1, rs1, q1, d.mono t1⟩⟩
theorem as_set (i : Nat) {x : Str} {pos' : Pos} (hN : X.N.Nodup) (he : AE X e te) (hi : X.N[i]? = some x := by rfl) (hx : Loc X.env.scope x := by first | exact Or.inl rfl | exact Or.inr rfl) (hs : swapsWith e (some (.Name x pos')) pos.line X.env = pure false := by rfl)
    (hf : X.fn x = true ∨ X.env.scope.names.lookup x = some .local := by first | exact .inl rfl | exact .inr rfl | assumption) : AS X (.Assign [.Name x pos'] e pos) (aSet i te) :=
  PS.imp (ps_set hN hi hx he hs hf) fun D σ H ⟨env, S, D', rσ, rs, q, d⟩ => ⟨env, S, _, rσ, rs, q, fun v H1 x S1 t1 rx rs1 q1 => d.nx _ S1 _ H1 t1 ((rσ.mono t1).set i rx) rs1 q1⟩

/-! targets: the slots ws alone are set -/
abbrev ATG := A → Env' → Store → (Env' → Store → Prop) → Prop
def liftG (K : PySem.W.Frag) (ws : List Nat) (g : ATG) : TG := fun v σ H Q => ∃ x env S, ∃ Q' : Env' → Store → Prop, RA K H x v ∧ Rσ K H env σ ∧ RS K S H ∧ g x env S Q' ∧ ∀ env' S' σ' H', Tx H H' → wipe σ' ws = wipe σ ws → Rσ K H' env' σ' → RS K S' H' → Q' env' S' → Q σ' H'
def AG (X : Cx) (tg : Expr) (ws : List Nat) (g : ATG) : Prop := PG X tg (liftG X.K ws g)
theorem PG.imp {tg : Expr} {g g' : TG} (h : PG X tg g) (i : ∀ v σ H Q, g' v σ H Q → g v σ H Q) : PG X tg g' := ⟨fun pins s σ H v u Q I r q => h.run pins s σ H v u Q I r (i _ _ _ _ q)⟩
def agName (i : Nat) : ATG := fun x env S Q => Q (env.set i (some x)) S
theorem wipe_set {σ : L2.St} {i : Nat} {v : Option V} : ∀ {ws : List Nat}, i ∈ ws → wipe (σ.set i v) ws = wipe σ ws := by
  intro ws
  induction ws with
  | nil => intro h; cases h
  | cons w ws ih =>
    intro h
    have hl : ∀ j : Nat, (wipe (σ.set i v) (w :: ws))[j]? = (wipe σ (w :: ws))[j]? := by
      have gen : ∀ (ws : List Nat) (τ : L2.St) (j : Nat), (wipe τ ws)[j]? = if j ∈ ws then (if j < τ.length then some none else none) else τ[j]? := by
        intro ws τ
        induction ws with
        | nil => intro j; simp [wipe]
        | cons w ws ih =>
          intro j
          show ((wipe τ ws).set w none)[j]? = _
          by_cases hj : j = w
          · subst hj
            by_cases hlt : j < τ.length
            · rw [List.getElem?_set_self (by rw [wipe_length]; exact hlt)]
              simp [hlt]
            · rw [List.getElem?_eq_none (by rw [List.length_set, wipe_length]; omega)]
              simp [hlt]
          · rw [List.getElem?_set_ne (Ne.symm hj), ih j]
            simp [hj]
      intro j
      rw [gen, gen]
      by_cases hj : j ∈ w :: ws
      · rw [if_pos hj, if_pos hj, List.length_set]
      · rw [if_neg hj, if_neg hj]
        have hne : i ≠ j := fun e => hj (e ▸ h)
        rw [List.getElem?_set_ne hne]
    exact List.ext_getElem? hl
theorem ag_name (i : Nat) {x : Str} {ws : List Nat} (hN : X.N.Nodup) (hw : i ∈ ws := by decide) (hi : X.N[i]? = some x := by rfl) (hx : Loc X.env.scope x := by first | exact Or.inl rfl | exact Or.inr rfl)
    (hf : X.fn x = true ∨ X.env.scope.names.lookup x = some .local := by first | exact .inl rfl | exact .inr rfl | assumption) : AG X (.Name x pos) ws (agName i) :=
  PG.imp (pg_name hN hi hx hf) fun v σ H Q ⟨x, env, S, Q', rx, rσ, rs, q, k⟩ => k _ S _ H (Tx.refl H) (wipe_set hw) (rσ.set i rx) rs q
abbrev ATGs := List A → Env' → Store → (Env' → Store → Prop) → Prop
def liftGs (K : PySem.W.Frag) (ws : List Nat) (g : ATGs) : TGs := fun vs σ H Q => ∃ xs env S, ∃ Q' : Env' → Store → Prop, RAs K H xs vs ∧ Rσ K H env σ ∧ RS K S H ∧ g xs env S Q' ∧ ∀ env' S' σ' H', Tx H H' → wipe σ' ws = wipe σ ws → Rσ K H' env' σ' → RS K S' H' → Q' env' S' → Q σ' H'
def AGs (X : Cx) (tg : List Expr) (ws : List Nat) (g : ATGs) : Prop := PGs X tg (liftGs X.K ws g)
theorem PGs.imp {tg : List Expr} {g g' : TGs} (h : PGs X tg g) (i : ∀ v σ H Q, g' v σ H Q → g v σ H Q) : PGs X tg g' := ⟨fun pins s σ H v u Q I r q => h.run pins s σ H v u Q I r (i _ _ _ _ q)⟩
def agNil : ATGs := fun xs env S Q => xs = [] ∧ Q env S
def agCons (g : ATG) (gs : ATGs) : ATGs := fun xs env S Q => match xs with
  | x :: xs => g x env S fun env1 S1 => gs xs env1 S1 Q
  | [] => False
theorem ags_nil {ws : List Nat} : AGs X [] ws agNil := PGs.imp pgs_nil fun v σ H Q ⟨xs, env, S, Q', rx, rσ, rs, ⟨e, q⟩, k⟩ => by
  subst e
  cases rx
  exact ⟨rfl, k _ S _ H (Tx.refl H) rfl rσ rs q⟩
theorem ags_cons {ws : List Nat} {es : List Expr} {g : ATG} {gs : ATGs} (h1 : AG X e ws g) (h2 : AGs X es ws gs) (hs : (assignEach (e :: es) X.env).map (·.2) = assign e X.env :: (assignEach es X.env).map (·.2) := by rfl) : AGs X (e :: es) ws (agCons g gs) :=
  PGs.imp (pgs_cons h1 h2 hs) fun v σ H Q ⟨xs, env, S, Q', rx, rσ, rs, q, k⟩ => by
    cases xs with
    | nil => exact q.elim
    | cons x xs =>
      obtain ⟨v0, r, rfl, h3, h4⟩ := rx
      exact ⟨v0, r, rfl, x, env, S, _, h3, rσ, rs, q, fun env1 S1 σ1 H1 t1 w1 rσ1 rs1 q1 => ⟨xs, env1, S1, Q', RAs.mono t1 _ _ h4, rσ1, rs1, q1, fun env2 S2 σ2 H2 t2 w2 => k env2 S2 σ2 H2 (t1.trans t2) (w2.trans w1)⟩⟩
def agTup (n : Nat) (gs : ATGs) : ATG := fun x env S Q => match x with
  | .tup l => l.length = n ∧ gs l env S Q
  | _ => False
theorem ag_tup {ws : List Nat} {es : List Expr} {gs : ATGs} {k n : Nat} (hc : X.calm = true) (h : AGs X es ws gs) (hn : (assignEach es X.env).length = n := by rfl) (hst : (assignEach es X.env).findIdx? (·.1) = none := by rfl) : AG X (.Tuple es k pos) ws (agTup n gs) :=
  PG.imp (pg_tup hc h hn hst) fun v σ H Q ⟨x, env, S, Q', rx, rσ, rs, q, k⟩ => by
    cases x with
    | tup l =>
      obtain ⟨a, vs, rfl, h1, h2⟩ := rx
      exact ⟨a, vs, rfl, h1, by rw [h2.length]; exact q.1, l, env, S, Q', h2, rσ, rs, q.2, k⟩
    | _ => exact q.elim
def aAsg (te : ATE) (g : ATG) : ATS := fun D env S => te env S fun x S1 => g x env S1 D.nx
theorem as_asg {ws : List Nat} {tg : Expr} {g : ATG} (he : AE X e te) (hg : AG X tg ws g) (hs : swapsWithSole [tg] e pos.line X.env = pure false := by rfl) (hw : swappedStores [tg] e X.env = pure none := by rfl)
    (h1 : (assignEach [tg] X.env).map (·.2) = [assign tg X.env] := by rfl) : AS X (.Assign [tg] e pos) (aAsg te g) :=
  PS.imp (ps_asg he hg hs hw h1) fun D σ H ⟨env, S, D', rσ, rs, q, d⟩ => ⟨env, S, _, rσ, rs, q, fun v H1 x S1 t1 rx rs1 q1 => ⟨x, env, S1, D'.nx, rx, rσ.mono t1, rs1, q1, fun env2 S2 σ2 H2 t2 _ => d.nx env2 S2 σ2 H2 (t1.trans t2)⟩⟩
/-- l[i] = v, l a list -/
def agSub (to ti : ATE) : ATG := fun x env S Q => to env S fun o S1 => ti env S1 fun i S2 => match o, i with
  | .ref a, .int k => (match S2 a with
    | some (.lst l) => ∃ j, ixN l.length k = some j ∧ Q env (us S2 a (.lst (l.set j x)))
    | _ => False)
  | _, _ => False
theorem ag_sub {ws : List Nat} {o i : Expr} {to ti : ATE} (ho : AE X o to) (hi : AE X i ti)
    (ha : ∀ v, assign (.Subscript o i pos) X.env v = (do
      let ov ← holding [v] (eval o X.env)
      let iv ← holding [v, ov] (eval i X.env)
      standAt pos
      holding [v, ov, iv] (setItem ov iv v)
      release [v, ov, iv] []) := by intro _; rfl) : AG X (.Subscript o i pos) ws (agSub to ti) :=
  PG.imp (pg_sub ho hi set_list ha) fun v σ H Q ⟨x, env, S, Q', rx, rσ, rs, q, k⟩ => ⟨env, S, _, rσ, rs, q, fun v1 H1 x1 S1 t1 rx1 rs1 q1 => ⟨env, S1, _, rσ.mono t1, rs1, q1, fun v2 H2 x2 S2 t2 rx2 rs2 q2 => by
    split at q2
    · rename_i a kk
      cases rx2
      have rx1' := RA.mono t2 _ _ rx1
      cases rx1'
      split at q2
      · rename_i l e
        obtain ⟨j, hj, q2⟩ := q2
        obtain ⟨vs, h1, h2⟩ := rs2 _ _ e
        refine ⟨a, vs, kk, j, rfl, rfl, h1, by rw [h2.length]; exact hj, k env _ σ _ ((t1.trans t2).trans (Tx.put h1 trivial)) rfl (((rσ.mono t1).mono t2).mono (Tx.put h1 trivial)) (rs2.put h1 trivial (rm_put h1 (h2.set j (RA.mono (t1.trans t2) _ _ rx)))) q2⟩
      · exact q2.elim
    · exact q2.elim⟩⟩
end
end WA

set_option Elab.async false
set_option maxRecDepth 100000
set_option maxHeartbeats 2000000
set_option linter.all false
namespace WA
open PySem L2

/-! enumerate(v) of whatever begins -/
set_option maxHeartbeats 4000000 in
theorem meets_enum1 {v : Value} {o : Obj} {H : Heap → Prop} (B : Begins v o H) :
    Meets (Builtin.«enumerate.__new__» ⟨[.type "enumerate", v], []⟩) (fun _ R s => H s.heap ∧
      R (.ok (.ret (.ref (s.heap.push o).objs.size))) { s with heap := (s.heap.push o).push { cls := .type "enumerate", data := .fields #[.none, .bool false, .ref s.heap.objs.size, rawInt 0, .none, .none] } }) :=
  .of_wp fun prog w A R s h => by
    obtain ⟨hp, g, d, tk, os⟩ := s; obtain ⟨h1, h⟩ := h
    have hsub := sub_enumerate
    have q1 : ∀ {A' : Around} {E : Value → Shared → Prop} {Q : Value → Shared → Prop}, Q (.ref hp.objs.size) ⟨hp.push o, g, d, tk, os⟩ → wpAny (model prog w) A' (pyIter v) Q E ⟨hp, g, d, tk, os⟩ :=
      fun q => B.iter prog w _ _ ⟨hp, g, d, tk, os⟩ _ h1 q
    wp_walk using q1
    refine wpAny_stack_any fun st => wpAny_pure ?_
    split
    · rename_i c _ _ _ _ _
      cases (c == Value.type "enumerate")
      · wp_walk using q1
        exact ⟨_, rfl, h⟩
      · wp_walk using q1
        exact ⟨_, rfl, h⟩
    · wp_walk using q1
      exact ⟨_, rfl, h⟩
theorem call_enumerate_tupA {prog : Program} {w : World} {A : Around} {E : Value → Shared → Prop} {s : Shared} {t : Addr} {items : Array Value} {Q : Value → Shared → Prop} (ht : s.heap.IsTuple t items)
    (h : ∀ h', IsEnum h' (s.heap.objs.size + 1) s.heap.objs.size 0 .none → h'.get? s.heap.objs.size = some { cls := .type "tuple_iterator", data := .fields #[.ref t, .int 0 0] } → h'.objs.size = s.heap.objs.size + 2 →
      (∀ b o, s.heap.get? b = some o → h'.get? b = some o) → Q (.ref (s.heap.objs.size + 1)) { s with heap := h' }) :
    wpAny (model prog w) A (call (.type "enumerate") [.ref t]) Q E s := by
  have B := begins_tuple t items
  refine callType_new F.called_enumerate (by decide) (F.typeCall_enumerate_1 _) (F.newCall_enumerate_1 _) (fun obj => F.args_object_init_2 obj _) F.entry_enumerate_new
    (meets_enum1 B) ⟨ht, ?_⟩
  have hz : (s.heap.push { cls := .type "tuple_iterator", data := .fields #[.ref t, .int 0 0] }).objs.size = s.heap.objs.size + 1 := Heap.size_push ..
  show _ ∧ _
  rw [hz]
  have he : IsEnum ((s.heap.push { cls := .type "tuple_iterator", data := .fields #[.ref t, .int 0 0] }).push { cls := .type "enumerate", data := .fields #[.none, .bool false, .ref s.heap.objs.size, rawInt 0, .none, .none] }) (s.heap.objs.size + 1) s.heap.objs.size 0 .none := by
    have := Heap.get?_push_size (s.heap.push { cls := .type "tuple_iterator", data := .fields #[.ref t, .int 0 0] }) (o := { cls := .type "enumerate", data := .fields #[.none, .bool false, .ref s.heap.objs.size, rawInt 0, .none, .none] }) rfl
    rw [hz] at this; exact this
  refine ⟨⟨_, he, rfl⟩, h _ he (Heap.get?_push_of_some _ (Heap.get?_push_size _ rfl)) (by rw [Heap.size_push, hz]) fun b o x => Heap.get?_push_of_some _ (Heap.get?_push_of_some _ x)⟩

/-! ### 9. what a loop walks -/
/-- at turn i: not well formed | it stops | it yields x -/
abbrev AIt := Nat → Store → Option (Option A)
abbrev ATI := Env' → Store → (AIt → Store → Prop) → Prop
structure RIt (K : PySem.W.Frag) (J : AIt) (Jc : It) (H0 : Hp) : Prop where
  stop : ∀ S H i, Tx H0 H → RS K S H → J i S = some none → Jc.stop i H
  go : ∀ S H i x, Tx H0 H → RS K S H → J i S = some (some x) → Jc.go i H ∧ ∀ v H', Jc.yld i H v H' → Tx H H' ∧ RA K H' x v ∧ RS K S H'
def liftI (K : PySem.W.Frag) (wi : ATI) : TI := fun σ H R => ∃ env S, ∃ R' : AIt → Store → Prop, Rσ K H env σ ∧ RS K S H ∧ wi env S R' ∧ ∀ J Jc H' S', Tx H H' → RIt K J Jc H' → RS K S' H' → R' J S' → R Jc H'
def AI (X : Cx) (tg iter : Expr) (wi : ATI) : Prop := PI X tg iter (liftI X.K wi)
theorem PI.imp {X : Cx} {tg l : Expr} {t u : TI} (h : PI X tg l t) (i : ∀ σ H R, u σ H R → t σ H R) : PI X tg l u := ⟨fun pins s σ H R I q => h.run pins s σ H R I (i σ H R q)⟩
/-- items that stay -/
def itC (xs : List A) : AIt := fun i _ => some xs[i]?
/-- a list as it stands at each turn -/
def itL (a : Addr) : AIt := fun i S => match S a with
  | some (.lst l) => some l[i]?
  | _ => none
theorem rit_tup {K : PySem.W.Frag} {H : Hp} {a : Addr} {xs : List A} {vs : List V} (h : SqT K H a vs) (r : RAs K H xs vs) : RIt K (itC xs) (Itt K a) H where
  stop := fun S H' i t rs e => ⟨vs, t.sqt h, by
    have e : xs[i]? = none := Option.some.inj e
    rw [r.length]
    exact List.getElem?_eq_none_iff.mp e⟩
  go := fun S H' i x t rs e => by
    have e : xs[i]? = some x := Option.some.inj e
    obtain ⟨v, h1, h2⟩ := r.get e
    refine ⟨⟨vs, v, t.sqt h, h1⟩, fun w H2 ⟨e2, hw⟩ => ?_⟩
    subst e2
    have := hw vs (t.sqt h)
    rw [h1] at this
    cases this
    exact ⟨Tx.refl _, RA.mono t _ _ h2, rs⟩
theorem rit_fl {K : PySem.W.Frag} {H : Hp} {a : Addr} {xs : List A} {vs : List V} (h : FzL K H a vs) (r : RAs K H xs vs) : RIt K (itC xs) (Itl K a) H where
  stop := fun S H' i t rs e => ⟨vs, (t.fzl h).sq, by
    have e : xs[i]? = none := Option.some.inj e
    rw [r.length]
    exact List.getElem?_eq_none_iff.mp e⟩
  go := fun S H' i x t rs e => by
    have e : xs[i]? = some x := Option.some.inj e
    obtain ⟨v, h1, h2⟩ := r.get e
    refine ⟨⟨vs, v, (t.fzl h).sq, h1⟩, fun w H2 ⟨e2, hw⟩ => ?_⟩
    subst e2
    have := hw vs (t.fzl h).sq
    rw [h1] at this
    cases this
    exact ⟨Tx.refl _, RA.mono t _ _ h2, rs⟩
theorem itL_some {a : Addr} {i : Nat} {S : Store} {o : Option A} (e : itL a i S = some o) : ∃ l, S a = some (.lst l) ∧ l[i]? = o := by
  unfold itL at e
  split at e
  · rename_i l h
    exact ⟨l, h, Option.some.inj e⟩
  · cases e
theorem rit_lst {K : PySem.W.Frag} {H : Hp} {a : Addr} : RIt K (itL a) (Itl K a) H where
  stop := fun S H' i t rs e => by
    obtain ⟨l, h, e⟩ := itL_some e
    obtain ⟨vs, h1, h2⟩ := rs _ _ h
    exact ⟨vs, SqL.of h1, by rw [h2.length]; exact List.getElem?_eq_none_iff.mp e⟩
  go := fun S H' i x t rs e => by
    obtain ⟨l, h, e⟩ := itL_some e
    obtain ⟨vs, h1, h2⟩ := rs _ _ h
    obtain ⟨v, h3, h4⟩ := h2.get e
    refine ⟨⟨vs, v, SqL.of h1, h3⟩, fun w H2 ⟨e2, hw⟩ => ?_⟩
    subst e2
    have := hw vs (SqL.of h1)
    rw [h3] at this
    cases this
    exact ⟨Tx.refl _, h4, rs⟩
/-- lo, lo + 1, .. -/
def itR (lo : Int) (n : Nat) : AIt := fun i _ => some (if i < n then some (.int (lo + (i : Nat))) else none)
theorem rit_rng {K : PySem.W.Frag} {H : Hp} {lo : Int} {n : Nat} : RIt K (itR lo n) (Itr lo n) H where
  stop := fun S H' i t rs e => by
    have e : (if i < n then some (A.int (lo + (i : Nat))) else none) = none := Option.some.inj e
    show n ≤ i
    by_cases h : i < n
    · rw [if_pos h] at e; cases e
    · omega
  go := fun S H' i x t rs e => by
    have e : (if i < n then some (A.int (lo + (i : Nat))) else none) = some x := Option.some.inj e
    by_cases h : i < n
    · rw [if_pos h] at e
      cases e
      exact ⟨h, fun v H2 ⟨e2, ev⟩ => by subst e2; subst ev; exact ⟨Tx.refl _, rfl, rs⟩⟩
    · rw [if_neg h] at e; cases e
/-- a list, a tuple -/
def itOf (S : Store) : A → Option AIt
  | .tup l => some (itC l)
  | .fl l => some (itC l)
  | .ref a => match S a with
    | some (.lst _) => some (itL a)
    | _ => none
  | _ => none
def aiSeq (te : ATE) : ATI := fun env S R => te env S fun x S1 => match itOf S1 x with
  | some J => R J S1
  | none => False
section
variable {X : Cx} {tg l a b : Expr} {pos p tpos : Pos}
/-- the value decides whether a list or a tuple is walked -/
theorem pi_seq {tl : TE} (hl : PE X l tl) : PI X tg l (fun σ H R => tl σ H fun x H1 => ∃ a, x = .ref a ∧ ((∃ xs, SqL X.K H1 a xs ∧ R (Itl X.K a) H1) ∨ (∃ xs, SqT X.K H1 a xs ∧ R (Itt X.K a) H1))) := by
  refine ⟨fun pins s σ H R I h => ?_⟩
  refine thn (hl.run pins s σ H _ I h) fun v s1 ⟨x, H1, I1, r1, q1⟩ => ?_
  obtain ⟨a, e, q⟩ := q1
  subst e
  cases r1
  rcases q with ⟨xs, hq, q⟩ | ⟨xs, hq, q⟩
  · obtain ⟨its, rv, p, hz⟩ := I1.list hq
    refine wpAny_pyIter_list p.isList ?_
    refine ⟨s1.heap.objs.size, [s1.heap.objs.size], _, _, H1, rfl, I1.kept (t' := s1.toks) fun b o e => Heap.get?_push_of_some _ e, turn_list a _, ⟨_, Heap.get?_push_size _ rfl, rfl, rfl⟩, fun b hb => ?_, q⟩
    have e : b = s1.heap.objs.size := by simpa using hb
    subst e
    exact I1.fpOk (Nat.le_refl _) (I1.hok.fresh (Nat.le_refl _))
  · obtain ⟨its, rv, p, hz⟩ := I1.tuple hq
    refine wpAny_pyIter_tuple (show s1.heap.IsTuple a its.toArray from p) ?_
    refine ⟨s1.heap.objs.size, [s1.heap.objs.size], _, _, H1, rfl, I1.kept (t' := s1.toks) fun b o e => Heap.get?_push_of_some _ e, turn_tuple a _, ⟨_, Heap.get?_push_size _ rfl, rfl, rfl⟩, fun b hb => ?_, q⟩
    have e : b = s1.heap.objs.size := by simpa using hb
    subst e
    exact I1.fpOk (Nat.le_refl _) (I1.hok.fresh (Nat.le_refl _))
theorem ai_seq {te : ATE} (h : AE X l te) : AI X tg l (aiSeq te) :=
  PI.imp (pi_seq h) fun σ H R ⟨env, S, R', rσ, rs, q, k⟩ => ⟨env, S, _, rσ, rs, q, fun v H1 x S1 t1 rx rs1 q1 => by
    have go : ∀ J, itOf S1 x = some J → R' J S1 → _ := fun J e r => by
      show ∃ a, v = .ref a ∧ ((∃ xs, SqL X.K H1 a xs ∧ R (Itl X.K a) H1) ∨ (∃ xs, SqT X.K H1 a xs ∧ R (Itt X.K a) H1))
      cases x with
      | tup l =>
        cases e
        obtain ⟨a, vs, rfl, h1, h2⟩ := rx
        exact ⟨a, rfl, .inr ⟨vs, h1, k _ _ H1 S1 t1 (rit_tup h1 h2) rs1 r⟩⟩
      | fl l =>
        cases e
        obtain ⟨a, vs, rfl, h1, h2⟩ := rx
        exact ⟨a, rfl, .inl ⟨vs, h1.sq, k _ _ H1 S1 t1 (rit_fl h1 h2) rs1 r⟩⟩
      | ref a =>
        cases rx
        have e : (match S1 a with | some (.lst _) => some (itL a) | _ => none) = some J := e
        split at e
        · rename_i l ea
          cases e
          obtain ⟨vs, h1, h2⟩ := rs1 _ _ ea
          exact ⟨a, rfl, .inl ⟨vs, SqL.of h1, k _ _ H1 S1 t1 rit_lst rs1 r⟩⟩
        · cases e
      | _ => cases e
    split at q1
    · rename_i J e
      exact go J e q1
    · exact q1.elim⟩
def aiRng1 (t : ATA) : ATI := fun env S R => t env S fun xs S1 => match xs with
  | [.int j] => -(2 ^ 62) ≤ j ∧ j < 2 ^ 62 ∧ R (itR 0 j.toNat) S1
  | _ => False
def aiRng2 (t : ATA) : ATI := fun env S R => t env S fun xs S1 => match xs with
  | [.int i, .int j] => (-(2 ^ 62) ≤ i ∧ i < 2 ^ 62 ∧ -(2 ^ 62) ≤ j ∧ j < 2 ^ 62) ∧ R (itR i (j - i).toNat) S1
  | _ => False
theorem ai_range1 {t : ATA} (hg : Gl X "range") (hm : X.mg "range" = none) (ha : AA X [a] t) (hs : starEach [a] X.env = [(false, eval a X.env)] := by rfl) : AI X tg (.Call (.Name "range" p) [a] [] pos) (aiRng1 t) :=
  PI.imp (pi_range1 hg hm ha hs) fun σ H R ⟨env, S, R', rσ, rs, q, k⟩ => ⟨env, S, _, rσ, rs, q, fun vs H1 xs S1 t1 rx rs1 q1 => by
    split at q1
    · rename_i j
      obtain ⟨v, rfl, h1⟩ := rx.one
      cases h1
      exact ⟨j, rfl, q1.1, q1.2.1, k _ _ H1 S1 t1 rit_rng rs1 q1.2.2⟩
    · exact q1.elim⟩
theorem ai_range2 {t : ATA} (hg : Gl X "range") (hm : X.mg "range" = none) (ha : AA X [a, b] t) (hs : starEach [a, b] X.env = [(false, eval a X.env), (false, eval b X.env)] := by rfl) (hs2 : starEach [b] X.env = [(false, eval b X.env)] := by rfl) :
    AI X tg (.Call (.Name "range" p) [a, b] [] pos) (aiRng2 t) :=
  PI.imp (pi_range2 hg hm ha hs hs2) fun σ H R ⟨env, S, R', rσ, rs, q, k⟩ => ⟨env, S, _, rσ, rs, q, fun vs H1 xs S1 t1 rx rs1 q1 => by
    split at q1
    · rename_i i j
      obtain ⟨v, w, rfl, h1, h2⟩ := rx.two
      cases h1
      cases h2
      exact ⟨i, j, rfl, q1.1, k _ _ H1 S1 t1 rit_rng rs1 q1.2⟩
    · exact q1.elim⟩

/-! enumerate of a tuple: its turns -/
/-- the tuple at a, each item in a new pair -/
def IteT (K : PySem.W.Frag) (a : Addr) : It :=
  ⟨fun i H => ∃ (xs : List V) (x : V), SqT K H a xs ∧ xs[i]? = some x, fun i H v H' => ∃ T x, v = .ref T ∧ H T = none ∧ H' = upd H T (.tup [.int (i : Nat), x]) ∧ ∀ xs, SqT K H a xs → xs[i]? = some x, fun i H => ∃ xs : List V, SqT K H a xs ∧ xs.length ≤ i⟩
theorem turn_enumT {P : Program} {w : World} {K : PySem.W.Frag} {elts : List Expr} {kk : Nat} {tpos : Pos} (a e it : Addr) (hne : e ≠ it) :
    Turn P w K (.Tuple elts kk tpos) (IteT K a) [e, it] e (fun i h => (∃ old, IsEnum h e it ((i : Nat) : Int) old) ∧ h.IsTupleIter it a i) where
  mem := by simp
  obj := fun i h st b hb => by
    obtain ⟨⟨old, he⟩, ⟨o, ho, hc, hd⟩⟩ := st
    have e' : b = e ∨ b = it := by simpa using hb
    rcases e' with z | z
    · rw [z]; exact ⟨_, he, fun v q => nomatch q⟩
    · rw [z]; exact ⟨o, ho, fun v q => by rw [hd] at q; cases q⟩
  keep := fun i h h' st k => let ⟨⟨old, he⟩, hi⟩ := st; ⟨⟨old, k e (by simp) _ he⟩, hi.at fun o q => k it (by simp) o q⟩
  item := by
    intro X hP hw hK hc i pins s σ H E I hf st hg
    subst hP hw hK
    obtain ⟨⟨old, he⟩, hit⟩ := st
    obtain ⟨xs, x, hq, hx⟩ := hg
    obtain ⟨its, rv, p, hz⟩ := I.tuple hq
    obtain ⟨u, hu, ru⟩ := rv.get hx
    have hel : e < s.heap.objs.size := Heap.lt_size he
    have hil : it < s.heap.objs.size := by obtain ⟨_, q, _⟩ := hit; exact Heap.lt_size q
    have hh : X.A.in1.handled = none := I.ok.hd hc
    have pa : s.heap.IsTuple a its.toArray := p
    have hti : a ≠ it := fun z => by
      obtain ⟨o1, e1, c1, d1⟩ := hit
      obtain ⟨o2, e2, c2, n2, d2⟩ := pa
      rw [z, e1] at e2
      cases e2
      exact absurd (Value.type.inj (c1.symm.trans c2)) (by decide)
    have hae : e ≠ a := fun z => by
      obtain ⟨o2, e2, c2, n2, d2⟩ := pa
      rw [← z, show s.heap.get? e = some _ from he] at e2
      cases e2
      exact absurd (Value.type.inj c2) (by decide)
    have D := Draws.tuple (prog := X.prog) (w := X.w) (A := X.A.in1) hh it a hti its.toArray
    have hlt : i < its.toArray.size := by
      obtain ⟨h1, _⟩ := List.getElem?_eq_some_iff.mp hu
      simpa using h1
    refine wpAny_pyNext_enum_itemD D he ⟨hit, pa⟩ hlt hne (by simp [hne, hae]) fun y h' tk hy ho hst' hT hsz hk => ?_
    have ey : y = u := by
      have hy : its.toArray[i]? = some y := hy
      have : its[i]? = some y := by simpa using hy
      rw [hu] at this
      exact (Option.some.inj this).symm
    subst ey
    refine ⟨_, rfl, wpAny_letOwnedTupleGo_enum (s := { s with heap := h', toks := tk + 1 }) ho fun h'' he' sb => ?_⟩
    have hT2 : h''.get? s.heap.objs.size = some { cls := .type "tuple", data := .seq #[.int i tk, y] } := (sb.2 _ (Nat.ne_of_gt hel)).trans hT
    have new : ObjOk X.prog X.w (upd H s.heap.objs.size (.tup [.int (i : Nat), x])) h'' s.heap.objs.size (.tup [.int (i : Nat), x]) :=
      ⟨by show 2 ≤ sizeLine; decide, [.int i tk, y], .cons ⟨_, rfl⟩ (.cons ru .nil), ⟨_, hT2, rfl, _, rfl⟩⟩
    have I1 : Inv X pins σ (upd H s.heap.objs.size (.tup [.int (i : Nat), x])) { s with heap := h'', toks := tk + 1 } :=
      I.turnedNew (ch := [e, it]) (fun b ob hb q => (sb.2 b (fun z => hb (by simp [z]))).trans (hk b ob (fun z => hb (by simp [z])) (fun z => hb (by simp [z])) q)) hf (Nat.le_refl _) new
    refine ⟨.ref s.heap.objs.size, _, I1, rfl, ⟨_, x, rfl, I.hok.fresh (Nat.le_refl _), rfl, fun ys hy => by rw [I.tuple_inj hy hq]; exact hx⟩, ⟨⟨y, ?_⟩, hst'.1.at fun o q => (sb.2 it (Ne.symm hne)).trans q⟩, fun b hb => ?_⟩
    · have e1 : ((i + 1 : Nat) : Int) = (i : Int) + 1 := by omega
      rw [e1]; exact he'
    · have hb' : b < s.heap.objs.size := by
        have e' : b = e ∨ b = it := by simpa using hb
        rcases e' with z | z
        · rw [z]; exact hel
        · rw [z]; exact hil
      rw [upd_ne (Nat.ne_of_lt hb')]
      exact (hf b hb).1
  done := by
    intro X hP hw hK hc i pins s σ H E I hf st hg
    subst hP hw hK
    obtain ⟨⟨old, he⟩, hit⟩ := st
    obtain ⟨xs, hq, hx⟩ := hg
    obtain ⟨its, rv, p, hz⟩ := I.tuple hq
    obtain ⟨f0, f1, f2, f3, f4, f5⟩ := hf it (by simp)
    have hl := rv.length
    have hh : X.A.in1.handled = none := I.ok.hd hc
    have pa : s.heap.IsTuple a its.toArray := p
    have hT : s.TypeIs (.ref e) "enumerate" := ⟨_, he, rfl⟩
    unfold pyNext
    refine wpAny_bind (wpAny_attempt (wpAny_callSpecial?_slot (name := Str.ofString "__next__") hT F.slot_enumerate_next
      (wpAny_call_entry F.slot_enumerate_next hT F.entry_enumerate_next ?_ (F.args_enumerate_next_1 _))))
    show wpAny _ _ (field (.ref e) 2 >>= _) _ _ _
    refine wpAny_bind (wpAny_field he rfl (x := .ref it) rfl ?_)
    refine wpAny_bind (wpAny_nextOf_tuple_end hh hit pa (by simp; omega) fun h' x he' hx' => ?_)
    obtain ⟨o, ho, hc'⟩ := hx'
    refine wpAny_bind (wpAny_isInstance (T := "StopIteration") (b := true) ⟨o, ho, hc'⟩ isSubtype_stop ?_)
    exact wpAny_pure ⟨rfl, I.turned (t' := s.toks) (fun b o hb q => he' b o hb q) f0 f1 f3 f4 f5⟩
  self := fun A i s Q E st h => let ⟨⟨_, he⟩, _⟩ := st; wpAny_pyIter_enum he h

/-- enumerate(l), enumerate(t) -/
theorem pi_enumA {e : Expr} {ta : TA} {elts : List Expr} {kk : Nat} (hg : Gl X "enumerate") (hm : X.mg "enumerate" = none) (ha : PA X [e] ta) (hs : starEach [e] X.env = [(false, eval e X.env)] := by rfl) :
    PI X (.Tuple elts kk tpos) (.Call (.Name "enumerate" p) [e] [] pos) (fun σ H R => ta σ H fun vs H1 => ∃ a, vs = [.ref a] ∧ ((∃ xs, SqL X.K H1 a xs ∧ R (Ite X.K a) H1) ∨ (∃ xs, SqT X.K H1 a xs ∧ R (IteT X.K a) H1))) := by
  refine ⟨fun pins s σ H R I h => ?_⟩
  refine PyProof.Rows.Call_ (ld_blt I hg hm PyProof.Rows.boot_enumerate (PyProof.Rows.callWith_type1 (thn (ha.run pos pins s σ H _ I h) fun us s1 ⟨vs, H1, I1, r1, q1⟩ => ?_) hs rfl))
  obtain ⟨a, ex, q⟩ := q1
  subst ex
  cases r1 with
  | cons r rr =>
    cases rr
    cases r
    have fp : ∀ b ∈ [s1.heap.objs.size + 1, s1.heap.objs.size], FpOk X pins H1 b := fun b hb => by
      have e' : b = s1.heap.objs.size + 1 ∨ b = s1.heap.objs.size := by simpa using hb
      have hle : s1.heap.objs.size ≤ b := by
        rcases e' with z | z
        · rw [z]; exact Nat.le_add_right _ _
        · rw [z]; exact Nat.le_refl _
      exact I1.fpOk hle (I1.hok.fresh hle)
    rcases q with ⟨xs, hq, q⟩ | ⟨xs, hq, q⟩
    · obtain ⟨its, rv, p', hz⟩ := I1.list hq
      refine call_enumerate_list p'.isList fun h' he hit hsz hk => wpAny_pyIter_enum he ?_
      have I2 : Inv X pins σ H1 { s1 with heap := h' } := I1.kept (t' := s1.toks) hk
      exact ⟨s1.heap.objs.size + 1, [s1.heap.objs.size + 1, s1.heap.objs.size], _, _, H1, rfl, I2, turn_enum a (s1.heap.objs.size + 1) s1.heap.objs.size, ⟨⟨.none, he⟩, hit, Nat.succ_ne_self _⟩, fp, q⟩
    · obtain ⟨its, rv, p', hz⟩ := I1.tuple hq
      refine call_enumerate_tupA (show s1.heap.IsTuple a its.toArray from p') fun h' he hit hsz hk => wpAny_pyIter_enum he ?_
      have I2 : Inv X pins σ H1 { s1 with heap := h' } := I1.kept (t' := s1.toks) hk
      exact ⟨s1.heap.objs.size + 1, [s1.heap.objs.size + 1, s1.heap.objs.size], _, _, H1, rfl, I2, turn_enumT a (s1.heap.objs.size + 1) s1.heap.objs.size (Nat.succ_ne_self _), ⟨⟨.none, he⟩, ⟨_, hit, rfl, rfl⟩⟩, fp, q⟩
def itE (J : AIt) : AIt := fun i S => match J i S with
  | none => none
  | some none => some none
  | some (some x) => some (some (.tup [.int (i : Nat), x]))
theorem rit_enum {K : PySem.W.Frag} {H : Hp} {a : Addr} {J : AIt} (h : RIt K J (Itl K a) H) : RIt K (itE J) (Ite K a) H where
  stop := fun S H' i t rs e => h.stop S H' i t rs (by
    unfold itE at e
    split at e
    · cases e
    · assumption
    · cases e)
  go := fun S H' i x t rs e => by
    unfold itE at e
    split at e
    · cases e
    · cases e
    · rename_i y ey
      cases e
      obtain ⟨g, hy⟩ := h.go S H' i y t rs ey
      refine ⟨g, fun v H2 ⟨T, z, e1, e2, e3, e4⟩ => ?_⟩
      subst e1
      subst e3
      obtain ⟨_, r, _⟩ := hy z H' ⟨rfl, e4⟩
      exact ⟨Tx.new e2, ra_new e2 (RAs.cons rfl (RAs.cons r RAs.nil)), rs.new e2⟩
theorem rit_enumT {K : PySem.W.Frag} {H : Hp} {a : Addr} {J : AIt} (h : RIt K J (Itt K a) H) : RIt K (itE J) (IteT K a) H where
  stop := fun S H' i t rs e => h.stop S H' i t rs (by
    unfold itE at e
    split at e
    · cases e
    · assumption
    · cases e)
  go := fun S H' i x t rs e => by
    unfold itE at e
    split at e
    · cases e
    · cases e
    · rename_i y ey
      cases e
      obtain ⟨g, hy⟩ := h.go S H' i y t rs ey
      refine ⟨g, fun v H2 ⟨T, z, e1, e2, e3, e4⟩ => ?_⟩
      subst e1
      subst e3
      obtain ⟨_, r, _⟩ := hy z H' ⟨rfl, e4⟩
      exact ⟨Tx.new e2, ra_new e2 (RAs.cons rfl (RAs.cons r RAs.nil)), rs.new e2⟩
def aiEnum (t : ATA) : ATI := fun env S R => t env S fun xs S1 => match xs with
  | [x] => (match itOf S1 x with
    | some J => R (itE J) S1
    | none => False)
  | _ => False
theorem ai_enum {t : ATA} {e : Expr} {elts : List Expr} {kk : Nat} (hg : Gl X "enumerate") (hm : X.mg "enumerate" = none) (ha : AA X [e] t) (hs : starEach [e] X.env = [(false, eval e X.env)] := by rfl) :
    AI X (.Tuple elts kk tpos) (.Call (.Name "enumerate" p) [e] [] pos) (aiEnum t) :=
  PI.imp (pi_enumA hg hm ha hs) fun σ H R ⟨env, S, R', rσ, rs, q, k⟩ => ⟨env, S, _, rσ, rs, q, fun vs H1 xs S1 t1 rx rs1 q1 => by
    split at q1
    · rename_i x
      obtain ⟨v, rfl, h1⟩ := rx.one
      split at q1
      · rename_i J e
        cases x with
        | tup l =>
          cases e
          obtain ⟨a, vs, rfl, h1, h2⟩ := h1
          exact ⟨a, rfl, .inr ⟨vs, h1, k _ _ H1 S1 t1 (rit_enumT (rit_tup h1 h2)) rs1 q1⟩⟩
        | fl l =>
          cases e
          obtain ⟨a, vs, rfl, h1, h2⟩ := h1
          exact ⟨a, rfl, .inl ⟨vs, h1.sq, k _ _ H1 S1 t1 (rit_enum (rit_fl h1 h2)) rs1 q1⟩⟩
        | ref a =>
          cases h1
          have e : (match S1 a with | some (.lst _) => some (itL a) | _ => none) = some J := e
          split at e
          · rename_i l ea
            cases e
            obtain ⟨vs, h1, h2⟩ := rs1 _ _ ea
            exact ⟨a, rfl, .inl ⟨vs, SqL.of h1, k _ _ H1 S1 t1 (rit_enum rit_lst) rs1 q1⟩⟩
          · cases e
        | _ => cases e
      · exact q1.elim
    · exact q1.elim⟩

/-! ### 10. for, while -/
/-- the items of J, one after another -/
def Loop (g : ATG) (tb : ATS) (D : AEnds) (J : AIt) (env : Env') (S : Store) : Prop := ∃ W : Nat → Nat → Env' → Store → Prop, (∃ m, W 0 m env S) ∧ ∀ i m env S, W i m env S → match J i S with
  | none => False
  | some none => D.nx env S
  | some (some x) => ∃ N : Env' → Store → Prop, (∀ env' S', N env' S' → ∃ m', m' < m ∧ W (i + 1) m' env' S') ∧ g x env S fun env2 S2 => tb { D with nx := N, ct := N, bk := D.nx } env2 S2
def aFor (wi : ATI) (g : ATG) (tb : ATS) : ATS := fun D env S => wi env S fun J S1 => Loop g tb D J env S1
theorem as_for {iter : Expr} {body : List Stmt} {wi : ATI} {g : ATG} {ws : List Nat} {tb : ATS} (hp : PassesOwn (model X.prog X.w) X.A X.env X.xe) (hc : X.calm = true) (hi : AI X tg iter wi) (hg : AG X tg ws g) (hb : ASs X body tb)
    (hs : ∀ x, foldedSetIterable iter X.env x = pure x := by intro _; rfl) : AS X (.For tg iter body [] pos) (aFor wi g tb) :=
  PS.imp (ps_for hp hc hi hg hb hs) fun D σ H ⟨env, S, D', rσ, rs, q, d⟩ => ⟨env, S, _, rσ, rs, q, fun J Jc H1 S1 t1 rj rs1 ⟨W, ⟨m0, w0⟩, turn⟩ => by
    refine ⟨fun i m σ' H' => ∃ env' S', Tx H1 H' ∧ Rσ X.K H' env' σ' ∧ RS X.K S' H' ∧ W i m env' S', ⟨m0, env, S1, Tx.refl H1, rσ.mono t1, rs1, w0⟩, ?_⟩
    rintro i m σ' H' ⟨env', S', t2, rσ', rs', w⟩
    have q := turn i m env' S' w
    cases e : J i S' with
    | none => rw [e] at q; exact q.elim
    | some o =>
      cases o with
      | none =>
        rw [e] at q
        exact .inl ⟨rj.stop S' H' i t2 rs' e, d.nx env' S' σ' H' (t1.trans t2) rσ' rs' q⟩
      | some x =>
        rw [e] at q
        obtain ⟨N, hN, q⟩ := q
        obtain ⟨g1, g2⟩ := rj.go S' H' i x t2 rs' e
        refine .inr ⟨g1, fun σ3 H3 => ∃ env3 S3, Tx H1 H3 ∧ Rσ X.K H3 env3 σ3 ∧ RS X.K S3 H3 ∧ N env3 S3, ?_, fun v H3 y => ?_⟩
        · rintro σ3 H3 ⟨env3, S3, t3, r3, s3, n3⟩
          obtain ⟨m', hm, w3⟩ := hN env3 S3 n3
          exact ⟨m', hm, env3, S3, t3, r3, s3, w3⟩
        · obtain ⟨t3, rx, rs3⟩ := g2 v H3 y
          refine ⟨x, env', S', _, rx, rσ'.mono t3, rs3, q, fun env4 S4 σ4 H4 t4 _ r4 s4 q4 => ⟨env4, S4, { D' with nx := N, ct := N, bk := D'.nx }, r4, s4, q4, ?_⟩⟩
          have tt : Tx H H4 := ((t1.trans t2).trans t3).trans t4
          have t14 : Tx H1 H4 := (t2.trans t3).trans t4
          exact ⟨fun e S σ H' u r s n => ⟨e, S, t14.trans u, r, s, n⟩, fun x S v H' u => d.rt x S v H' (tt.trans u), fun e S σ H' u => d.nx e S σ H' (tt.trans u), fun e S σ H' u r s n => ⟨e, S, t14.trans u, r, s, n⟩⟩⟩
def aWhile (c : ATT) (tb : ATS) : ATS := fun D env S => ∃ W : Nat → Env' → Store → Prop, (∃ m, W m env S) ∧ ∀ m env S, W m env S →
  c env S fun b S1 => if b = true then ∃ N : Env' → Store → Prop, (∀ env' S', N env' S' → ∃ m', m' < m ∧ W m' env' S') ∧ tb { D with nx := N, ct := N, bk := D.nx } env S1 else D.nx env S1
theorem as_while {c : Expr} {body : List Stmt} {tc : ATT} {tb : ATS} (hp : PassesOwn (model X.prog X.w) X.A X.env X.xe) (hc : AT X c tc) (hb : ASs X body tb) : AS X (.While c body [] pos) (aWhile tc tb) :=
  PS.imp (ps_while hp hc hb) fun D σ H ⟨env, S, D', rσ, rs, ⟨W, ⟨m0, w0⟩, turn⟩, d⟩ => by
    refine ⟨fun m σ' H' => ∃ env' S', Tx H H' ∧ Rσ X.K H' env' σ' ∧ RS X.K S' H' ∧ W m env' S', ⟨m0, env, S, Tx.refl H, rσ, rs, w0⟩, ?_⟩
    rintro m σ' H' ⟨env', S', t2, rσ', rs', w⟩
    refine ⟨env', S', _, rσ', rs', turn m env' S' w, fun b H3 S3 t3 rs3 q => ?_⟩
    cases b with
    | true =>
      have q : ∃ N : Env' → Store → Prop, (∀ env' S', N env' S' → ∃ m', m' < m ∧ W m' env' S') ∧ tb { D' with nx := N, ct := N, bk := D'.nx } env' S3 := q
      obtain ⟨N, hN, q⟩ := q
      refine ⟨fun σ3 H4 => ∃ env3 S3, Tx H H4 ∧ Rσ X.K H4 env3 σ3 ∧ RS X.K S3 H4 ∧ N env3 S3, ?_, env', S3, { D' with nx := N, ct := N, bk := D'.nx }, rσ'.mono t3, rs3, q, ?_⟩
      · rintro σ3 H4 ⟨env3, S4, t4, r4, s4, n4⟩
        obtain ⟨m', hm, w4⟩ := hN env3 S4 n4
        exact ⟨m', hm, env3, S4, t4, r4, s4, w4⟩
      · have tt : Tx H H3 := t2.trans t3
        exact ⟨fun e S σ H' u r s n => ⟨e, S, tt.trans u, r, s, n⟩, fun x S v H' u => d.rt x S v H' (tt.trans u), fun e S σ H' u => d.nx e S σ H' (tt.trans u), fun e S σ H' u r s n => ⟨e, S, tt.trans u, r, s, n⟩⟩
    | false =>
      have q : D'.nx env' S3 := q
      exact d.nx env' S3 σ' H3 (t2.trans t3) (rσ'.mono t3) rs3 q

/-! ### 11. list comprehensions -/
def wipeA (env : Env') : List Nat → Env'
  | [] => env
  | v :: vs => (wipeA env vs).set v none
theorem Rσ.wipe {K : PySem.W.Frag} {H : Hp} {env : Env'} {σ : L2.St} (r : Rσ K H env σ) : ∀ ws : List Nat, Rσ K H (wipeA env ws) (wipe σ ws)
  | [] => r
  | w :: ws => by
    have ih := Rσ.wipe r ws
    refine ⟨by show ((wipeA env ws).set w none).length = ((L2.wipe σ ws).set w none).length; simp [ih.len], fun i x e => ?_⟩
    have e : ((wipeA env ws).set w none)[i]? = some (some x) := e
    show ∃ v, ((L2.wipe σ ws).set w none)[i]? = some (some v) ∧ _
    by_cases q : i = w
    · subst q
      by_cases hlt : i < (wipeA env ws).length
      · rw [List.getElem?_set_self hlt] at e; cases e
      · rw [List.getElem?_eq_none (by rw [List.length_set]; omega)] at e; cases e
    · rw [List.getElem?_set_ne (Ne.symm q)] at e
      rw [List.getElem?_set_ne (Ne.symm q)]
      exact ih.get i x e
/-- the tests of a comprehension -/
def ATs (X : Cx) (es : List Expr) (t : ATT) : Prop := PTs X es (liftT X.K t)
def aYes : ATT := fun _ S Q => Q true S
/-- the same for a comprehension whose list stands at D -/
def LcLoop (g : ATG) (tt : ATT) (te : ATE) (D : Addr) (Qd : Store → Prop) (J : AIt) (env : Env') (S : Store) : Prop := ∃ W : Nat → Nat → Store → Prop, (∃ m, W 0 m (us S D (.lst []))) ∧ ∀ i m S, W i m S → match J i S with
  | none => False
  | some none => Qd S
  | some (some x) => ∃ Nx : Store → Prop, (∀ S', Nx S' → ∃ m', m' < m ∧ W (i + 1) m' S') ∧ g x env S fun env2 S2 => tt env2 S2 fun b S3 => if b = true then te env2 S3 fun y S4 => ∃ acc, S4 D = some (.lst acc) ∧ acc.length < sizeLine ∧ Nx (us S4 D (.lst (acc ++ [y]))) else Nx S3
def aLc (wi : ATI) (g : ATG) (tt : ATT) (te : ATE) (ws : List Nat) : ATE := fun env S Q => wi env S fun J S1 => ∀ D, S1 D = none → LcLoop g tt te D (fun S => Q (.ref D) S) J (wipeA env ws) S1
theorem lc_lift {K : PySem.W.Frag} {wi : ATI} {g : ATG} {tt : ATT} {te : ATE} {ws : List Nat} {σ : L2.St} {H : Hp} {Q : VK} (h : liftE K (aLc wi g tt te ws) σ H Q) : tLc (liftI K wi) (liftG K ws g) (liftT K tt) (liftE K te) ws σ H Q := by
  obtain ⟨env, S, Q', rσ, rs, q, k⟩ := h
  refine ⟨env, S, _, rσ, rs, q, fun J Jc H1 S1 t1 rj rs1 q1 D hD => ?_⟩
  obtain ⟨W, ⟨m0, w0⟩, turn⟩ := q1 D (rs1.none hD)
  refine ⟨fun i m H' => ∃ S', Tx H1 H' ∧ RS K S' H' ∧ W i m S', ⟨m0, _, Tx.new hD, rs1.make hD (rm_new hD RAs.nil), w0⟩, ?_⟩
  rintro i m H' ⟨S', t2, rs', w⟩
  have q := turn i m S' w
  cases e : J i S' with
  | none => rw [e] at q; exact q.elim
  | some o =>
    cases o with
    | none =>
      rw [e] at q
      exact .inl ⟨rj.stop S' H' i t2 rs' e, k _ H' (.ref D) S' (t1.trans t2) rfl rs' q⟩
    | some x =>
      rw [e] at q
      obtain ⟨N, hN, q⟩ := q
      obtain ⟨g1, g2⟩ := rj.go S' H' i x t2 rs' e
      refine .inr ⟨g1, fun H3 => ∃ S3, Tx H1 H3 ∧ RS K S3 H3 ∧ N S3, ?_, fun v H3 y => ?_⟩
      · rintro H3 ⟨S3, t3, s3, n3⟩
        obtain ⟨m', hm, w3⟩ := hN S3 n3
        exact ⟨m', hm, S3, t3, s3, w3⟩
      · obtain ⟨t3, rx, rs3⟩ := g2 v H3 y
        have t13 : Tx H1 H3 := t2.trans t3
        refine ⟨x, wipeA env ws, S', _, rx, (rσ.mono (t1.trans t13)).wipe ws, rs3, q, fun env4 S4 σ4 H4 t4 w4 r4 s4 q4 => ⟨?_, env4, S4, _, r4, s4, q4, fun b H5 S5 t5 s5 q5 => ?_⟩⟩
        · rw [w4]
          have ww : ∀ (ws : List Nat) (σ : L2.St), wipe (wipe σ ws) ws = wipe σ ws := by
            intro ws σ
            have gen : ∀ (ws : List Nat) (τ : L2.St) (j : Nat), (wipe τ ws)[j]? = if j ∈ ws then (if j < τ.length then some none else none) else τ[j]? := by
              intro ws τ
              induction ws with
              | nil => intro j; simp [wipe]
              | cons w ws ih =>
                intro j
                show ((wipe τ ws).set w none)[j]? = _
                by_cases hj : j = w
                · subst hj
                  by_cases hlt : j < τ.length
                  · rw [List.getElem?_set_self (by rw [wipe_length]; exact hlt)]
                    simp [hlt]
                  · rw [List.getElem?_eq_none (by rw [List.length_set, wipe_length]; omega)]
                    simp [hlt]
                · rw [List.getElem?_set_ne (Ne.symm hj), ih j]
                  simp [hj]
            refine List.ext_getElem? fun j => ?_
            rw [gen, gen]
            split
            · rw [wipe_length]
            · rfl
          exact ww ws σ
        · cases b with
          | true =>
            have q5 : te env4 S5 fun y S4 => ∃ acc, S4 D = some (.lst acc) ∧ acc.length < sizeLine ∧ N (us S4 D (.lst (acc ++ [y]))) := q5
            refine ⟨env4, S5, _, r4.mono t5, s5, q5, fun w H6 z S6 t6 rz s6 ⟨acc, ha, hl, n6⟩ => ?_⟩
            obtain ⟨vs, h1, h2⟩ := s6 _ _ ha
            refine ⟨vs, h1, by rw [h2.length]; exact hl, _, ?_, s6.put h1 trivial (rm_put h1 (h2.append (RAs.cons rz RAs.nil))), n6⟩
            exact (((t13.trans t4).trans t5).trans t6).trans (Tx.put h1 trivial)
          | false =>
            have q5 : N S5 := q5
            exact ⟨S5, (t13.trans t4).trans t5, s5, q5⟩
theorem PTs.imp {ifs : List Expr} {t u : TT} (h : PTs X ifs t) (i : ∀ σ H Q, u σ H Q → t σ H Q) : PTs X ifs u := ⟨fun pins s σ H Q I q => h.run pins s σ H Q I (i σ H Q q)⟩
theorem ats_nil : ATs X [] aYes := PTs.imp pts_nil fun σ H Q ⟨env, S, Q', rσ, rs, q, k⟩ => k true H S (Tx.refl H) rs q
theorem ats_one {c : Expr} {t : ATT} (h : AT X c t) : ATs X [c] t := pts_one h
theorem ae_lc {elt iter : Expr} {ifs : List Expr} {scope : Scope} {own : List (Str × Nat)} {wi : ATI} {g : ATG} {tt : ATT} {te : ATE} (hc : X.calm = true) (hN : X.N.Nodup) (hi : AI X tg iter wi) (ok : BlkOk X.N X.env.scope scope own)
    (hg : ∀ (s : Shared) (H : Hp) (C : Addr) (cl : List (Str × Addr)) (fp : List Addr), AG (X.blk s H scope (compEnvC scope cl C X.env) fp) tg (own.map (·.2)) g) (ht : ∀ (s : Shared) (H : Hp) (C : Addr) (cl : List (Str × Addr)) (fp : List Addr), ATs (X.blk s H scope (compEnvC scope cl C X.env) fp) ifs tt)
    (he : ∀ (s : Shared) (H : Hp) (C : Addr) (cl : List (Str × Addr)) (fp : List Addr), AE (X.blk s H scope (compEnvC scope cl C X.env) fp) elt te) (hs : ∀ x, foldedSetIterable iter X.env x = pure x := by intro _; rfl) :
    AE X (.ListComp elt [⟨tg, iter, ifs, 0⟩] scope pos) (aLc wi g tt te (own.map (·.2))) := PE.imp (pe_lc (g := liftG X.K (own.map fun x : Str × Nat => x.2) g) (tt := liftT X.K tt) (te := liftE X.K te) hc hN hi ok hg ht he hs) fun _ _ _ h => lc_lift h
/-- y = [..] -/
theorem as_setLc (i : Nat) {y : Str} {py spos : Pos} {elt iter : Expr} {ifs : List Expr} {scope : Scope} {own : List (Str × Nat)} {wi : ATI} {g : ATG} {tt : ATT} {te : ATE} (hc : X.calm = true) (hN : X.N.Nodup) (hy : X.N[i]? = some y) (hyl : X.env.scope.names.lookup y = some .local)
    (hsw : swapsWith (.ListComp elt [⟨tg, iter, ifs, 0⟩] scope pos) (some (.Name y py)) spos.line X.env = pure true) (hi : AI X tg iter wi) (ok : BlkOk X.N X.env.scope scope own)
    (hg : ∀ (s : Shared) (H : Hp) (C : Addr) (cl : List (Str × Addr)) (fp : List Addr), AG (X.blk s H scope (compEnvC scope cl C X.env) fp) tg (own.map (·.2)) g) (ht : ∀ (s : Shared) (H : Hp) (C : Addr) (cl : List (Str × Addr)) (fp : List Addr), ATs (X.blk s H scope (compEnvC scope cl C X.env) fp) ifs tt)
    (he : ∀ (s : Shared) (H : Hp) (C : Addr) (cl : List (Str × Addr)) (fp : List Addr), AE (X.blk s H scope (compEnvC scope cl C X.env) fp) elt te) (hs : ∀ x, foldedSetIterable iter X.env x = pure x := by intro _; rfl) :
    AS X (.Assign [.Name y py] (.ListComp elt [⟨tg, iter, ifs, 0⟩] scope pos) spos) (aSet i (aLc wi g tt te (own.map (·.2)))) :=
  PS.imp (ps_setLc (g := liftG X.K (own.map fun x : Str × Nat => x.2) g) (tt := liftT X.K tt) (te := liftE X.K te) hc hN hy hyl hsw hi ok hg ht he hs) fun D σ H ⟨env, S, D', rσ, rs, q, d⟩ => lc_lift ⟨env, S, _, rσ, rs, q, fun v H1 x S1 t1 rx rs1 q1 => d.nx _ S1 _ H1 t1 ((rσ.mono t1).set i rx) rs1 q1⟩
end

/-! ### 12. a def by its body -/
def startA (n : Nat) (xs : List A) : Env' := xs.map some ++ List.replicate (n - xs.length) none
theorem start_ra {K : PySem.W.Frag} {H : Hp} {xs : List A} {vs : List V} (r : RAs K H xs vs) (N : List Str) : Rσ K H (startA N.length xs) (L2.start N vs) := by
  have hl := r.length
  refine ⟨by simp [startA, L2.start, hl], fun i x e => ?_⟩
  unfold startA at e
  by_cases hi : i < xs.length
  · rw [List.getElem?_append_left (by simpa using hi), List.getElem?_map] at e
    cases q : xs[i]? with
    | none => rw [q] at e; cases e
    | some y =>
      rw [q] at e
      cases e
      obtain ⟨v, h1, h2⟩ := r.get q
      refine ⟨v, ?_, h2⟩
      unfold L2.start
      rw [List.getElem?_append_left (by rw [List.length_map]; omega), List.getElem?_map, h1]
      rfl
  · rw [List.getElem?_append_right (by simpa using hi), List.getElem?_replicate] at e
    split at e <;> cases e
/-- what a def hands back, what it made itself forgotten -/
def Ret (Q : AK) : AK := fun x S => ∃ S0, Le S0 S ∧ Q x S0
theorem Ret.mk {Q : AK} {x : A} {S S0 : Store} (l : Le S0 S) (q : Q x S0) : Ret Q x S := ⟨S0, l, q⟩
theorem Ret.at {Q : AK} {x : A} {S : Store} (q : Q x S) : Ret Q x S := ⟨S, Le.refl S, q⟩
section
variable {P : Program} {w : World} {K : PySem.W.Frag} {mg : Str → Option Value} {base : Heap}
theorem def_ok {x : Str} {st : Stmt} {f : Addr} {fd : FuncData} {N ps : List Str} {k : Nat} {sp : ASp} (F : L2.Fun K x x st f fd) (S : FnScope N ps (defScope st)) (hm : mg x = some (.ref f)) (b : Binds K fd ps []) (len : ∀ xs S Q, sp xs S Q → xs.length = ps.length)
    (hbody : ∀ (cdv : Value) (A : Around) (outer : List Env) (s : Shared) (H : Hp) (E : XK), Room k (A.deeper (PyProof.Rows.envOfC x (defScope st) s.heap.objs.size f cdv)) → ∃ t : ATS, ASs (cxOf CX0 P w K mg base N x (defScope st) f cdv A outer s H E).nox (defBody st) t ∧
      ∀ xs S Q, sp xs S Q → t { nx := fun _ S' => Ret Q .non S', rt := Ret Q } (startA N.length xs) S) : Fn P w K mg base (k + 1) x f sp := by
  refine ⟨fd, ps, F.ok S (fun vs H Q E ⟨xs, S, Q', r, rs, h, _⟩ => r.length.trans (len xs S Q' h)) (fun cdv A outer s H vs Q E hr ⟨xs, S0, Q', r, rs, h, kk⟩ => ?_), hm, F.kp, b⟩
  obtain ⟨t, ht, q⟩ := hbody cdv A outer s H E hr
  refine ⟨_, ht, startA N.length xs, S0, _, start_ra r N, rs, q xs S0 Q' h, ?_⟩
  exact ⟨fun env S' σ H' t r' rs' ⟨S1, l, q⟩ => kk .non H' .non S1 t rfl (rs'.le l) q, fun x S' v H' t r' rs' ⟨S1, l, q⟩ => kk v H' x S1 t r' (rs'.le l) q, fun _ _ _ _ _ _ _ q => q.elim, fun _ _ _ _ _ _ _ q => q.elim⟩
end
end WA

set_option Elab.async false
set_option maxRecDepth 100000
set_option maxHeartbeats 2000000
set_option linter.all false
namespace WA
open PySem L2

/-! ### 13. defs of the text, loops over items that stay -/
/-- a def of the module that stands under its name -/
structure Df (K : PySem.W.Frag) (mg : Str → Option Value) (x : Str) (st : Stmt) (ps : List Str) (f : Addr) : Prop where
  ex : ∃ fd : FuncData, L2.Fun K x x st f fd ∧ mg x = some (.ref f) ∧ Binds K fd ps []
section
variable {P : Program} {w : World} {K : PySem.W.Frag} {mg : Str → Option Value} {base : Heap}
theorem Df.ok {x : Str} {st : Stmt} {f : Addr} {N ps : List Str} {k : Nat} {sp : ASp} (F : Df K mg x st ps f) (S : FnScope N ps (defScope st)) (len : ∀ xs S Q, sp xs S Q → xs.length = ps.length)
    (hbody : ∀ (cdv : Value) (A : Around) (outer : List Env) (s : Shared) (H : Hp) (E : XK), Room k (A.deeper (PyProof.Rows.envOfC x (defScope st) s.heap.objs.size f cdv)) → ∃ t : ATS, ASs (cxOf CX0 P w K mg base N x (defScope st) f cdv A outer s H E).nox (defBody st) t ∧
      ∀ xs S Q, sp xs S Q → t { nx := fun _ S' => Ret Q .non S', rt := Ret Q } (startA N.length xs) S) : Fn P w K mg base (k + 1) x f sp := by
  obtain ⟨fd, h1, h2, h3⟩ := F.ex
  exact def_ok h1 S h2 h3 len hbody
end
/-- a statement, then the rest, shown once from Mid -/
def aCut (t u : ATS) : ATS := fun D env S => ∃ Mid : Env' → Store → Prop, t { D with nx := Mid } env S ∧ ∀ env' S', Mid env' S' → u D env' S'
theorem ass_cut {X : Cx} {s : Stmt} {ss : List Stmt} {t u : ATS} (h : AS X s t) (hr : ASs X ss u) : ASs X (s :: ss) (aCut t u) :=
  PSs.imp (C8.pss_cut h hr) fun D σ H ⟨env, S, D', rσ, rs, ⟨Mid, q, m⟩, d⟩ => ⟨fun σ' H' => ∃ env' S', Tx H H' ∧ Rσ X.K H' env' σ' ∧ RS X.K S' H' ∧ Mid env' S',
    ⟨env, S, { D' with nx := Mid }, rσ, rs, q, ⟨fun e S σ H' t r s n => ⟨e, S, t, r, s, n⟩, d.rt, d.bk, d.ct⟩⟩,
    fun σ' H' ⟨env', S', t, r, s, n⟩ => ⟨env', S', D', r, s, m env' S' n, d.mono t⟩⟩
section
variable {D : AEnds} {env : Env'} {S : Store} {g : ATG} {tb : ATS} {J : AIt}
/-- a loop over items xs that are the same at each turn -/
theorem for_by (xs : List A) (Pv : Nat → Env' → Store → Prop) (h0 : Pv 0 env S) (hJ : ∀ i env S, i ≤ xs.length → Pv i env S → J i S = some xs[i]?)
    (hs : ∀ i x env S, xs[i]? = some x → Pv i env S → g x env S fun env2 S2 => tb { D with nx := Pv (i + 1), ct := Pv (i + 1), bk := D.nx } env2 S2) (hd : ∀ env S, Pv xs.length env S → D.nx env S) : Loop g tb D J env S := by
  refine ⟨fun i m env S => m = xs.length - i ∧ i ≤ xs.length ∧ Pv i env S, ⟨xs.length, by simp, Nat.zero_le _, h0⟩, ?_⟩
  rintro i m env S ⟨rfl, hi, p⟩
  rw [hJ i env S hi p]
  cases e : xs[i]? with
  | none =>
    have hl : xs.length ≤ i := List.getElem?_eq_none_iff.mp e
    have : i = xs.length := by omega
    subst this
    exact hd env S p
  | some x =>
    obtain ⟨hlt, _⟩ := List.getElem?_eq_some_iff.mp e
    exact ⟨Pv (i + 1), fun env' S' p' => ⟨xs.length - (i + 1), by omega, rfl, by omega, p'⟩, hs i x env S e p⟩
theorem for_C {xs : List A} (Pv : Nat → Env' → Store → Prop) (h0 : Pv 0 env S)
    (hs : ∀ i x env S, xs[i]? = some x → Pv i env S → g x env S fun env2 S2 => tb { D with nx := Pv (i + 1), ct := Pv (i + 1), bk := D.nx } env2 S2) (hd : ∀ env S, Pv xs.length env S → D.nx env S) : Loop g tb D (itC xs) env S :=
  for_by xs Pv h0 (fun _ _ _ _ _ => rfl) hs hd
theorem for_L {a : Addr} {xs : List A} (Pv : Nat → Env' → Store → Prop) (h0 : Pv 0 env S) (hl : ∀ i env S, i ≤ xs.length → Pv i env S → S a = some (.lst xs))
    (hs : ∀ i x env S, xs[i]? = some x → Pv i env S → g x env S fun env2 S2 => tb { D with nx := Pv (i + 1), ct := Pv (i + 1), bk := D.nx } env2 S2) (hd : ∀ env S, Pv xs.length env S → D.nx env S) : Loop g tb D (itL a) env S :=
  for_by xs Pv h0 (fun i env S hi p => by unfold itL; rw [hl i env S hi p]) hs hd
/-- the items of a range -/
def rngA (lo : Int) (n : Nat) : List A := (List.range n).map fun i : Nat => A.int (lo + (i : Nat))
theorem rngA_len (lo : Int) (n : Nat) : (rngA lo n).length = n := by simp [rngA]
theorem rngA_get {lo : Int} {n i : Nat} : (rngA lo n)[i]? = if i < n then some (A.int (lo + (i : Nat))) else none := by
  unfold rngA
  rw [List.getElem?_map]
  by_cases h : i < n
  · rw [if_pos h, List.getElem?_range h]; rfl
  · rw [if_neg h, List.getElem?_eq_none (by simpa using h)]; rfl
theorem for_R {lo : Int} {n : Nat} (Pv : Nat → Env' → Store → Prop) (h0 : Pv 0 env S)
    (hs : ∀ (i : Nat) env S, i < n → Pv i env S → g (.int (lo + (i : Nat))) env S fun env2 S2 => tb { D with nx := Pv (i + 1), ct := Pv (i + 1), bk := D.nx } env2 S2) (hd : ∀ env S, Pv n env S → D.nx env S) : Loop g tb D (itR lo n) env S :=
  for_by (rngA lo n) Pv h0 (fun i env S hi p => by rw [rngA_get]; rfl) (fun i x env S e p => by
    rw [rngA_get] at e
    split at e
    · cases e; exact hs i env S (by assumption) p
    · cases e) (fun env S p => hd env S (by rw [rngA_len] at p; exact p))
/-- from 0 on, the turn's number as it stands -/
theorem for_R0 {n : Nat} (Pv : Nat → Env' → Store → Prop) (h0 : Pv 0 env S)
    (hs : ∀ (i : Nat) env S, i < n → Pv i env S → g (.int (i : Nat)) env S fun env2 S2 => tb { D with nx := Pv (i + 1), ct := Pv (i + 1), bk := D.nx } env2 S2) (hd : ∀ env S, Pv n env S → D.nx env S) : Loop g tb D (itR 0 (n : Int).toNat) env S := by
  rw [Int.toNat_natCast]
  exact for_R Pv h0 (fun i env S hi p => by rw [Int.zero_add]; exact hs i env S hi p) hd
theorem for_E {xs : List A} (Pv : Nat → Env' → Store → Prop) (h0 : Pv 0 env S)
    (hs : ∀ i x env S, xs[i]? = some x → Pv i env S → g (.tup [.int (i : Nat), x]) env S fun env2 S2 => tb { D with nx := Pv (i + 1), ct := Pv (i + 1), bk := D.nx } env2 S2) (hd : ∀ env S, Pv xs.length env S → D.nx env S) : Loop g tb D (itE (itC xs)) env S := by
  refine for_by (xs.zipIdx.map fun p => A.tup [.int (p.2 : Nat), p.1]) Pv h0 (fun i env S hi p => ?_) (fun i x env S e p => ?_) fun env S p => hd env S (by simpa using p)
  · show (match some xs[i]? with | none => none | some none => some none | some (some x) => some (some (A.tup [.int (i : Nat), x]))) = _
    rw [List.getElem?_map, List.getElem?_zipIdx]
    cases xs[i]? with
    | none => rfl
    | some x => simp
  · rw [List.getElem?_map, List.getElem?_zipIdx] at e
    cases q : xs[i]? with
    | none => rw [q] at e; cases e
    | some y =>
      rw [q] at e
      simp at e
      subst e
      exact hs i y env S q p
theorem for_EL {a : Addr} {xs : List A} (Pv : Nat → Env' → Store → Prop) (h0 : Pv 0 env S) (hl : ∀ i env S, i ≤ xs.length → Pv i env S → S a = some (.lst xs))
    (hs : ∀ i x env S, xs[i]? = some x → Pv i env S → g (.tup [.int (i : Nat), x]) env S fun env2 S2 => tb { D with nx := Pv (i + 1), ct := Pv (i + 1), bk := D.nx } env2 S2) (hd : ∀ env S, Pv xs.length env S → D.nx env S) : Loop g tb D (itE (itL a)) env S := by
  refine for_by (xs.zipIdx.map fun p => A.tup [.int (p.2 : Nat), p.1]) Pv h0 (fun i env S hi p => ?_) (fun i x env S e p => ?_) fun env S p => hd env S (by simpa using p)
  · have e0 : itL a i S = some xs[i]? := by unfold itL; rw [hl i env S (by simpa using hi) p]
    unfold itE
    rw [e0, List.getElem?_map, List.getElem?_zipIdx]
    cases xs[i]? with
    | none => rfl
    | some x => simp
  · rw [List.getElem?_map, List.getElem?_zipIdx] at e
    cases q : xs[i]? with
    | none => rw [q] at e; cases e
    | some y =>
      rw [q] at e
      simp at e
      subst e
      exact hs i y env S q p
end
/-! a comprehension over items that stay -/
section
variable {g : ATG} {tt : ATT} {te : ATE} {env0 : Env'} {S : Store} {J : AIt} {Qd : Store → Prop} {D : Addr}
theorem lc_by (xs : List A) (Pv : Nat → Store → Prop) (h0 : Pv 0 (us S D (.lst []))) (hJ : ∀ i S, i ≤ xs.length → Pv i S → J i S = some xs[i]?)
    (hs : ∀ i x S, xs[i]? = some x → Pv i S → g x env0 S fun env2 S2 => tt env2 S2 fun b S3 => if b = true then te env2 S3 fun y S4 => ∃ acc, S4 D = some (.lst acc) ∧ acc.length < sizeLine ∧ Pv (i + 1) (us S4 D (.lst (acc ++ [y]))) else Pv (i + 1) S3) (hd : ∀ S, Pv xs.length S → Qd S) : LcLoop g tt te D Qd J env0 S := by
  refine ⟨fun i m S => m = xs.length - i ∧ i ≤ xs.length ∧ Pv i S, ⟨xs.length, by simp, Nat.zero_le _, h0⟩, ?_⟩
  rintro i m S ⟨rfl, hi, p⟩
  rw [hJ i S hi p]
  cases e : xs[i]? with
  | none =>
    have hl : xs.length ≤ i := List.getElem?_eq_none_iff.mp e
    have : i = xs.length := by omega
    subst this
    exact hd S p
  | some x =>
    obtain ⟨hlt, _⟩ := List.getElem?_eq_some_iff.mp e
    exact ⟨Pv (i + 1), fun S' p' => ⟨xs.length - (i + 1), by omega, rfl, by omega, p'⟩, hs i x S e p⟩
theorem lc_R0 {n : Nat} (Pv : Nat → Store → Prop) (h0 : Pv 0 (us S D (.lst [])))
    (hs : ∀ (i : Nat) S, i < n → Pv i S → g (.int (i : Nat)) env0 S fun env2 S2 => tt env2 S2 fun b S3 => if b = true then te env2 S3 fun y S4 => ∃ acc, S4 D = some (.lst acc) ∧ acc.length < sizeLine ∧ Pv (i + 1) (us S4 D (.lst (acc ++ [y]))) else Pv (i + 1) S3) (hd : ∀ S, Pv n S → Qd S) : LcLoop g tt te D Qd (itR 0 (n : Int).toNat) env0 S := by
  refine lc_by (rngA 0 n) Pv h0 (fun i S hi p => by rw [rngA_get, Int.toNat_natCast]; rfl) (fun i x S e p => ?_) (fun S p => hd S (by rw [rngA_len] at p; exact p))
  rw [rngA_get] at e
  split at e
  · cases e
    rw [Int.zero_add]
    exact hs i S (by assumption) p
  · cases e
/-- elements that leave the store as it is -/
theorem lc_mapR {k n : Nat} {f : Nat → A} (hz : n ≤ 16777216) (hD : S D = none) (he : ∀ (i : Nat) S' (Qx : AK), i < n → Le S S' → Qx (f i) S' → te (env0.set k (some (.int (i : Nat)))) S' Qx) (q : Qd (us S D (.lst ((List.range n).map f)))) :
    LcLoop (agName k) aYes te D Qd (itR 0 (n : Int).toNat) env0 S := by
  refine lc_R0 (fun i S' => S' = us S D (.lst ((List.range i).map f))) rfl (fun i S' hi e => ?_) (fun S' e => by rw [e]; exact q)
  subst e
  show te (env0.set k (some (.int (i : Nat)))) (us S D (.lst ((List.range i).map f))) _
  refine he i _ _ hi (Le.new hD) ⟨_, us_same, ?_, ?_⟩
  · rw [List.length_map, List.length_range, sizeLine_eq]; omega
  · rw [us_us, List.range_succ, List.map_append]; rfl
theorem lc_mapBy {k : Nat} {xs : List A} {f : A → A} (hJ : ∀ i S', Le S S' → J i S' = some xs[i]?) (hz : xs.length ≤ 16777216) (hD : S D = none) (he : ∀ x S' (Qx : AK), x ∈ xs → Le S S' → Qx (f x) S' → te (env0.set k (some x)) S' Qx) (q : Qd (us S D (.lst (xs.map f)))) :
    LcLoop (agName k) aYes te D Qd J env0 S := by
  refine lc_by xs (fun i S' => S' = us S D (.lst ((xs.take i).map f))) rfl (fun i S' _ e => hJ i S' (by rw [e]; exact Le.new hD)) (fun i x S' hx e => ?_) (fun S' e => by rw [e, List.take_of_length_le (Nat.le_refl _)]; exact q)
  subst e
  show te (env0.set k (some x)) (us S D (.lst ((xs.take i).map f))) _
  have hi := (List.getElem?_eq_some_iff.mp hx).1
  refine he x _ _ (List.mem_of_getElem? hx) (Le.new hD) ⟨_, us_same, ?_, ?_⟩
  · rw [List.length_map, List.length_take, sizeLine_eq]; omega
  · rw [us_us, List.take_succ, hx, List.map_append]; rfl
theorem lc_mapC {k : Nat} {xs : List A} {f : A → A} (hz : xs.length ≤ 16777216) (hD : S D = none) (he : ∀ x S' (Qx : AK), x ∈ xs → Le S S' → Qx (f x) S' → te (env0.set k (some x)) S' Qx) (q : Qd (us S D (.lst (xs.map f)))) :
    LcLoop (agName k) aYes te D Qd (itC xs) env0 S := lc_mapBy (fun _ _ _ => rfl) hz hD he q
theorem lc_mapL {k : Nat} {a : Addr} {xs : List A} {f : A → A} (ha : S a = some (.lst xs)) (hz : xs.length ≤ 16777216) (hD : S D = none) (he : ∀ x S' (Qx : AK), x ∈ xs → Le S S' → Qx (f x) S' → te (env0.set k (some x)) S' Qx) (q : Qd (us S D (.lst (xs.map f)))) :
    LcLoop (agName k) aYes te D Qd (itL a) env0 S := lc_mapBy (fun i S' l => by unfold itL; rw [l a _ ha]) hz hD he q
/-- with a test -/
theorem lc_filtBy {k : Nat} {xs : List A} {b : A → Bool} {f : A → A} (hJ : ∀ i S', Le S S' → J i S' = some xs[i]?) (hz : xs.length ≤ 16777216) (hD : S D = none) (ht : ∀ x S' (R : Bool → Store → Prop), x ∈ xs → Le S S' → R (b x) S' → tt (env0.set k (some x)) S' R)
    (he : ∀ x S' (Qx : AK), x ∈ xs → Le S S' → Qx (f x) S' → te (env0.set k (some x)) S' Qx) (q : Qd (us S D (.lst ((xs.filter b).map f)))) : LcLoop (agName k) tt te D Qd J env0 S := by
  refine lc_by xs (fun i S' => S' = us S D (.lst (((xs.take i).filter b).map f))) rfl (fun i S' _ e => hJ i S' (by rw [e]; exact Le.new hD)) (fun i x S' hx e => ?_) (fun S' e => by rw [e, List.take_of_length_le (Nat.le_refl _)]; exact q)
  subst e
  show tt (env0.set k (some x)) (us S D (.lst (((xs.take i).filter b).map f))) _
  have hi := (List.getElem?_eq_some_iff.mp hx).1
  have hm := List.mem_of_getElem? hx
  refine ht x _ _ hm (Le.new hD) ?_
  have hl : ((xs.take i).filter b).length ≤ i := Nat.le_trans (List.length_filter_le _ _) (by rw [List.length_take]; omega)
  cases hb : b x with
  | true =>
    rw [if_pos rfl]
    refine he x _ _ hm (Le.new hD) ⟨_, us_same, ?_, ?_⟩
    · rw [List.length_map, sizeLine_eq]; omega
    · rw [us_us, List.take_succ, hx, List.filter_append, List.map_append]
      simp [hb]
  | false =>
    rw [if_neg Bool.false_ne_true, List.take_succ, hx, List.filter_append]
    simp [hb]
end
end WA

set_option Elab.async false
set_option maxRecDepth 100000
set_option maxHeartbeats 2000000
set_option linter.all false
namespace WA
open PySem L2

theorem str_inj (a b : String) : (Str.ofString a = Str.ofString b) = (a = b) := by
  refine propext ⟨fun h => ?_, fun h => by rw [h]⟩
  rw [Str.ofString_eq_toList, Str.ofString_eq_toList] at h
  have h1 : (a.toList.map Char.toNat) = (b.toList.map Char.toNat) := by
    have := congrArg Str.cps h
    have := congrArg Array.toList this
    simpa using this
  have h2 : a.toList = b.toList := by
    have inj : ∀ (l m : List Char), l.map Char.toNat = m.map Char.toNat → l = m := by
      intro l
      induction l with
      | nil => intro m h; cases m with
        | nil => rfl
        | cons c m => simp at h
      | cons c l ih => intro m h; cases m with
        | nil => simp at h
        | cons e m =>
          simp only [List.map_cons, List.cons.injEq] at h
          rw [ih m h.2]
          have : c = e := Char.ext (UInt32.toNat_inj.mp h.1)
          rw [this]
    exact inj _ _ h1
  exact String.toList_inj.mp h2
theorem atI_0 {α : Type} (a : α) (l : List α) : atI (a :: l) 0 = some a := atI_nat (j := 0) rfl
theorem atI_1 {α : Type} (a b : α) (l : List α) : atI (a :: b :: l) 1 = some b := atI_nat (j := 1) rfl
theorem atI_2 {α : Type} (a b c : α) (l : List α) : atI (a :: b :: c :: l) 2 = some c := atI_nat (j := 2) rfl
theorem atI_3 {α : Type} (a b c d : α) (l : List α) : atI (a :: b :: c :: d :: l) 3 = some d := atI_nat (j := 3) rfl
theorem atI_4 {α : Type} (a b c d e : α) (l : List α) : atI (a :: b :: c :: d :: e :: l) 4 = some e := atI_nat (j := 4) rfl
theorem atI_5 {α : Type} (a b c d e f : α) (l : List α) : atI (a :: b :: c :: d :: e :: f :: l) 5 = some f := atI_nat (j := 5) rfl
theorem str_beq (a b : String) : (Str.ofString a == Str.ofString b) = (a == b) := by
  have h := str_inj a b
  by_cases e : a = b
  · subst e; simp
  · have e' : ¬ Str.ofString a = Str.ofString b := by rw [h]; exact e
    rw [beq_eq_false_iff_ne.mpr e', beq_eq_false_iff_ne.mpr e]
theorem atI_m1_1 {α : Type} (a : α) : atI [a] (-1) = some a := rfl
theorem atI_m1_2 {α : Type} (a b : α) : atI [a, b] (-1) = some b := rfl
theorem atI_m1_3 {α : Type} (a b c : α) : atI [a, b, c] (-1) = some c := rfl
theorem atI_m1_4 {α : Type} (a b c d : α) : atI [a, b, c, d] (-1) = some d := rfl
theorem cut_m1_2 {α : Type} (a b : α) : cut [a, b] none (some (-1)) = [a] := rfl
theorem cut_m1_3 {α : Type} (a b c : α) : cut [a, b, c] none (some (-1)) = [a, b] := rfl
theorem line_big {n : Nat} (h : n ≤ 16777216) : n ≤ sizeLine := by rw [sizeLine_eq]; exact h
theorem line_lt {n : Nat} (h : n < 16777216) : n < sizeLine := by rw [sizeLine_eq]; exact h

section
variable {P : Program} {w : World} {K : PySem.W.Frag} {mg : Str → Option Value} {base : Heap}
/-- the promise of nothing -/
theorem Df.never {x : Str} {st : Stmt} {f : Addr} {ps : List Str} (F : Df K mg x st ps f) (kp : PySem.W.keepIn K (.ref f) = true) : Fn P w K mg base 0 x f (fun _ _ _ => False) := by
  obtain ⟨fd, h1, h2, h3⟩ := F.ex
  exact ⟨fd, ps, ⟨fun vs H Q E ⟨_, _, _, _, _, h, _⟩ => h.elim, fun A outer s H args us vs Q E hr he hb hv ⟨_, _, _, _, _, h, _⟩ => h.elim⟩, h2, h1.kp, h3⟩
theorem Fn.mg_ {k : Nat} {x : Str} {f : Addr} {sp : ASp} (F : Fn P w K mg base k x f sp) : mg x = some (.ref f) := let ⟨_, _, _, m, _, _⟩ := F.ex; m
theorem Df.mg_ {x : Str} {st : Stmt} {f : Addr} {ps : List Str} (F : Df K mg x st ps f) : mg x = some (.ref f) := let ⟨_, _, h, _⟩ := F.ex; h
theorem Df.kp {x : Str} {st : Stmt} {f : Addr} {ps : List Str} (F : Df K mg x st ps f) : PySem.W.keepIn K (.ref f) = true := let ⟨_, h, _, _⟩ := F.ex; h.kp
theorem Df.never' {x : Str} {st : Stmt} {f : Addr} {ps : List Str} (F : Df K mg x st ps f) {sp : ASp} (h : ∀ xs S Q, ¬ sp xs S Q) : Fn P w K mg base 0 x f sp := (F.never F.kp).imp fun xs S Q q => (h xs S Q q).elim
/-- a new list is handed back, all else that was made is dropped -/
theorem ret_new {Q : AK} {S0 S : Store} {p : Addr} {m : MO} (h : S0 p = none) (l : Le S0 S) (e : S p = some m) (q : Q (.ref p) (us S0 p m)) : Ret Q (.ref p) S :=
  Ret.mk (fun a n z => by
    by_cases hp : a = p
    · subst hp
      rw [us_same] at z
      cases z
      exact e
    · rw [us_ne hp] at z
      exact l a n z) q
end
end WA

set_option Elab.async false
set_option maxRecDepth 100000
set_option maxHeartbeats 2000000
set_option linter.all false
namespace WA
open PySem L2

/-- an expression -/
inductive Ex where
  | num (n : Int) | name (x : Str) | not (e : Ex) | bin (op : Str) (l r : Ex)
def Ex.enc : Ex → A
  | .num n => .tup [.str "number", .int n]
  | .name x => .tup [.str "name", .str x]
  | .not e => .tup [.str "not", e.enc]
  | .bin op l r => .tup [.str op, l.enc, r.enc]
/-- a statement -/
inductive Stm where
  | set (x : Str) (e : Ex) | wait (e : Ex) | pick (x : Str) | send (e : Ex) (q : Str) | take (x q : Str) | lock (l : Str) | unlock (l : Str) | skip | stop | mark (m : Str)
  | ite (c : Ex) (a b : List Stm) | wh (c : Ex) (a : List Stm) | lp (a : List Stm)
mutual
def Stm.enc : Stm → A
  | .set x e => .tup [.str "set", .str x, e.enc]
  | .wait e => .tup [.str "wait", e.enc]
  | .pick x => .tup [.str "pick", .str x]
  | .send e q => .tup [.str "send", e.enc, .str q]
  | .take x q => .tup [.str "take", .str x, .str q]
  | .lock l => .tup [.str "lock", .str l]
  | .unlock l => .tup [.str "unlock", .str l]
  | .skip => .tup [.str "skip"]
  | .stop => .tup [.str "stop"]
  | .mark m => .tup [.str "mark", .str m]
  | .ite c a b => .tup [.str "if", c.enc, .tup (Stm.encs a), .tup (Stm.encs b)]
  | .wh c a => .tup [.str "while", c.enc, .tup (Stm.encs a)]
  | .lp a => .tup [.str "loop", .tup (Stm.encs a)]
def Stm.encs : List Stm → List A
  | [] => []
  | s :: l => s.enc :: Stm.encs l
end
theorem encs_map : ∀ l : List Stm, Stm.encs l = l.map Stm.enc
  | [] => rfl
  | s :: l => by rw [Stm.encs, encs_map l]; rfl
/-- a body -/
abbrev encB (l : List Stm) : A := .tup (Stm.encs l)
theorem encs_len (l : List Stm) : (Stm.encs l).length = l.length := by rw [encs_map, List.length_map]
theorem encs_get (l : List Stm) (i : Nat) : (Stm.encs l)[i]? = l[i]?.map Stm.enc := by rw [encs_map, List.getElem?_map]
theorem encs_append (l m : List Stm) : Stm.encs (l ++ m) = Stm.encs l ++ Stm.encs m := by rw [encs_map, encs_map, encs_map, List.map_append]
theorem encs_take (l : List Stm) (n : Nat) : Stm.encs (l.take n) = (Stm.encs l).take n := by rw [encs_map, encs_map, List.map_take]
theorem encs_drop (l : List Stm) (n : Nat) : Stm.encs (l.drop n) = (Stm.encs l).drop n := by rw [encs_map, encs_map, List.map_drop]
/-- the bodies within -/
def Stm.bodies : Stm → List (List Stm)
  | .ite _ a b => [a, b]
  | .wh _ a => [a]
  | .lp a => [a]
  | _ => []
/-- with the body of number n exchanged -/
def Stm.withBody : Stm → Nat → List Stm → Stm
  | .ite c a b, n, x => if n = 0 then .ite c x b else .ite c a x
  | .wh c a, _, x => .wh c x
  | .lp a, _, x => .lp x
  | s, _, _ => s
mutual
/-- how many statements, those within others too -/
def Stm.size : Stm → Nat
  | .ite _ a b => 1 + Stm.sizes a + Stm.sizes b
  | .wh _ a => 1 + Stm.sizes a
  | .lp a => 1 + Stm.sizes a
  | _ => 1
def Stm.sizes : List Stm → Nat
  | [] => 0
  | s :: l => s.size + Stm.sizes l
end
theorem sizes_append : ∀ l m : List Stm, Stm.sizes (l ++ m) = Stm.sizes l + Stm.sizes m
  | [], m => by simp [Stm.sizes]
  | s :: l, m => by rw [List.cons_append, Stm.sizes, Stm.sizes, sizes_append l m]; omega
theorem size_pos (s : Stm) : 1 ≤ s.size := by
  cases s <;> simp only [Stm.size] <;> omega
theorem length_sizes : ∀ l : List Stm, l.length ≤ Stm.sizes l
  | [] => Nat.zero_le _
  | s :: l => by
    have h1 := length_sizes l
    have h2 := size_pos s
    rw [Stm.sizes, List.length_cons]
    omega
theorem sizes_mem {s : Stm} : ∀ {l : List Stm}, s ∈ l → s.size ≤ Stm.sizes l
  | [], h => by cases h
  | t :: l, h => by
    rw [Stm.sizes]
    rcases List.mem_cons.mp h with rfl | h
    · omega
    · have := sizes_mem h
      omega
theorem sizes_bodies {s : Stm} {b : List Stm} (h : b ∈ s.bodies) : Stm.sizes b < s.size := by
  cases s <;> simp only [Stm.bodies, List.mem_cons, List.not_mem_nil, or_false] at h
  · rcases h with rfl | rfl <;> simp only [Stm.size] <;> omega
  · subst h; simp only [Stm.size]; omega
  · subst h; simp only [Stm.size]; omega
end WA

set_option Elab.async false
set_option maxRecDepth 100000
set_option maxHeartbeats 2000000
set_option linter.all false
namespace WA
open PySem L2
/-- the body with x in the place of its statement number at -/
def replAt (body : List Stm) (at_ : Nat) (x : List Stm) : List Stm := body.take at_ ++ x ++ body.drop (at_ + 1)
def withinM (ch : List Stm → List (List Stm)) (body : List Stm) (at_ : Nat) (s : Stm) : List (List Stm) := s.bodies.zipIdx.flatMap fun p => (ch p.1).map fun x => replAt body at_ [s.withBody p.2 x]
def remM : Nat → List Stm → List (List Stm)
  | 0, _ => []
  | n + 1, body => body.zipIdx.flatMap fun p => replAt body p.2 [] :: withinM (remM n) body p.2 p.1
def hoiM : Nat → List Stm → List (List Stm)
  | 0, _ => []
  | n + 1, body => body.zipIdx.flatMap fun p => p.1.bodies.map (replAt body p.2) ++ withinM (hoiM n) body p.2 p.1
theorem flatMap_snoc {α β : Type} (f : α → List β) (l : List α) (a : α) : (l ++ [a]).flatMap f = l.flatMap f ++ f a := by simp
theorem take_snoc {α : Type} {l : List α} {i : Nat} {x : α} (h : l[i]? = some x) : l.take (i + 1) = l.take i ++ [x] := by
  obtain ⟨hi, e⟩ := List.getElem?_eq_some_iff.mp h
  rw [List.take_succ, h]; rfl
theorem sizes_take {l : List Stm} {i : Nat} {s : Stm} (h : l[i]? = some s) : Stm.sizes (l.take (i + 1)) = Stm.sizes (l.take i) + s.size := by
  rw [take_snoc h, sizes_append]
  simp [Stm.sizes]
theorem sizes_take_le (l : List Stm) (i : Nat) : Stm.sizes (l.take i) ≤ Stm.sizes l := by
  have h := sizes_append (l.take i) (l.drop i)
  rw [List.take_append_drop] at h
  omega
def sumSizes (bs : List (List Stm)) : Nat := (bs.map Stm.sizes).sum
theorem sumSizes_bodies (s : Stm) : sumSizes s.bodies + 1 ≤ s.size := by
  cases s <;> simp [sumSizes, Stm.bodies, Stm.size] <;> omega
theorem bodies_two (s : Stm) : s.bodies.length ≤ 2 := by
  cases s <;> simp [Stm.bodies]
theorem zipIdx_len {bs : List (List Stm)} {ch : List Stm → List (List Stm)} {k c : Nat} {G : List Stm × Nat → List Stm → List Stm} (h : ∀ b ∈ bs, (ch b).length ≤ c * Stm.sizes b) : ((bs.zipIdx k).flatMap fun p => (ch p.1).map (G p)).length ≤ c * sumSizes bs := by
  induction bs generalizing k with
  | nil => simp [sumSizes]
  | cons b bs ih =>
    have h1 := h b List.mem_cons_self
    have h2 := ih (k := k + 1) fun b hb => h b (List.mem_cons_of_mem _ hb)
    simp only [List.zipIdx_cons, List.flatMap_cons, List.length_append, List.length_map, sumSizes, List.map_cons, List.sum_cons] at *
    have : c * (Stm.sizes b + (bs.map Stm.sizes).sum) = c * Stm.sizes b + c * (bs.map Stm.sizes).sum := Nat.mul_add ..
    omega
theorem withinM_len {ch : List Stm → List (List Stm)} {c : Nat} {body : List Stm} {i : Nat} {s : Stm} (h : ∀ b ∈ s.bodies, (ch b).length ≤ c * Stm.sizes b) : (withinM ch body i s).length ≤ c * sumSizes s.bodies := zipIdx_len h
theorem flat_len {F : Stm × Nat → List (List Stm)} {c : Nat} : ∀ (l : List Stm) (k : Nat), (∀ s j, s ∈ l → (F (s, j)).length ≤ c * s.size) → ((l.zipIdx k).flatMap F).length ≤ c * Stm.sizes l
  | [], _, _ => by simp
  | s :: l, k, h => by
    have h1 := h s k List.mem_cons_self
    have h2 := flat_len l (k + 1) fun s j hs => h s j (List.mem_cons_of_mem _ hs)
    simp only [List.zipIdx_cons, List.flatMap_cons, List.length_append, Stm.sizes]
    have : c * (s.size + Stm.sizes l) = c * s.size + c * Stm.sizes l := Nat.mul_add ..
    omega
theorem remM_len : ∀ (n : Nat) (body : List Stm), (remM n body).length ≤ 2 * Stm.sizes body
  | 0, _ => by simp [remM]
  | n + 1, body => by
    refine flat_len body 0 fun s j _ => ?_
    have h1 := withinM_len (ch := remM n) (c := 2) (body := body) (i := j) (s := s) fun b _ => remM_len n b
    have h2 := sumSizes_bodies s
    simp only [List.length_cons]
    omega
theorem hoiM_len : ∀ (n : Nat) (body : List Stm), (hoiM n body).length ≤ 2 * Stm.sizes body
  | 0, _ => by simp [hoiM]
  | n + 1, body => by
    refine flat_len body 0 fun s j _ => ?_
    have h1 := withinM_len (ch := hoiM n) (c := 2) (body := body) (i := j) (s := s) fun b _ => hoiM_len n b
    have h2 := sumSizes_bodies s
    have h3 := bodies_two s
    simp only [List.length_append, List.length_map]
    omega
/-- the first j bodies of s changed -/
def withinPart (ch : List Stm → List (List Stm)) (body : List Stm) (at_ : Nat) (s : Stm) (j : Nat) : List (List Stm) := (s.bodies.zipIdx.take j).flatMap fun p => (ch p.1).map fun x => replAt body at_ [s.withBody p.2 x]
theorem withinPart_all {ch : List Stm → List (List Stm)} {body : List Stm} {i : Nat} {s : Stm} {j : Nat} (h : s.bodies.length ≤ j) : withinPart ch body i s j = withinM ch body i s := by
  unfold withinPart withinM
  rw [List.take_of_length_le (by simpa using h)]
theorem withinPart_succ {ch : List Stm → List (List Stm)} {body : List Stm} {i : Nat} {s : Stm} {j : Nat} {bd : List Stm} (h : s.bodies[j]? = some bd) : withinPart ch body i s (j + 1) = withinPart ch body i s j ++ (ch bd).map fun x => replAt body i [s.withBody j x] := by
  unfold withinPart
  have hz : s.bodies.zipIdx[j]? = some (bd, j) := by rw [List.getElem?_zipIdx, h]; simp
  rw [take_snoc hz, flatMap_snoc]
/-! slices of a body, encoded -/
theorem cut_to {α : Type} (l : List α) (i : Nat) : cut l none (some (i : Int)) = l.take i := by
  unfold cut
  rw [HT.sIx_none, HT.sIx_nat, List.drop_zero, Nat.sub_zero]
  by_cases h : i ≤ l.length
  · rw [Nat.min_eq_left h]
  · rw [Nat.min_eq_right (by omega), List.take_of_length_le (Nat.le_refl _), List.take_of_length_le (by omega)]
theorem cut_from {α : Type} (l : List α) (i : Nat) : cut l (some (i : Int)) none = l.drop i := by
  unfold cut
  rw [HT.sIx_none, HT.sIx_nat]
  by_cases h : i ≤ l.length
  · rw [Nat.min_eq_left h, List.take_of_length_le (by rw [List.length_drop]; omega)]
  · rw [Nat.min_eq_right (by omega)]
    rw [List.drop_of_length_le (Nat.le_refl _), List.drop_of_length_le (by omega)]
    simp
theorem cut_from1 {α : Type} (l : List α) (i : Nat) : cut l (some ((i : Int) + 1)) none = l.drop (i + 1) := by
  have h := cut_from l (i + 1)
  rw [show (((i + 1 : Nat)) : Int) = (i : Int) + 1 by omega] at h
  exact h
theorem encs_replAt (body : List Stm) (i : Nat) (x : List Stm) : Stm.encs (replAt body i x) = (Stm.encs body).take i ++ Stm.encs x ++ (Stm.encs body).drop (i + 1) := by
  unfold replAt
  rw [encs_append, encs_append, encs_take, encs_drop]
end WA
namespace WA
open PySem L2
structure Thr where
  name : Str
  copies : A
  privs : List A
  body : List Stm
def Thr.enc (t : Thr) : A := .tup [.str t.name, t.copies, .tup t.privs, encB t.body]
structure Prog where
  name : Str
  boxes : List A
  locks : List A
  queues : List A
  bags : List A
  threads : List Thr
def Prog.enc (p : Prog) : A := .tup [.str p.name, .tup p.boxes, .tup p.locks, .tup p.queues, .tup p.bags, .tup (p.threads.map Thr.enc)]
/-- without the thing at i; with x in its place -/
def outAt {α : Type} (l : List α) (i : Nat) : List α := l.take i ++ l.drop (i + 1)
def putAt {α : Type} (l : List α) (i : Nat) (x : α) : List α := l.take i ++ [x] ++ l.drop (i + 1)
theorem outAt_map {α β : Type} (f : α → β) (l : List α) (i : Nat) : (outAt l i).map f = outAt (l.map f) i := by simp [outAt]
theorem putAt_map {α β : Type} (f : α → β) (l : List α) (i : Nat) (x : α) : (putAt l i x).map f = putAt (l.map f) i (f x) := by simp [putAt]
/-- the programs by a change of one thread's body -/
def thrM (ch : List Stm → List (List Stm)) (p : Prog) (z : Thr × Nat) : List Prog := (ch z.1.body).map fun b => { p with threads := putAt p.threads z.2 { z.1 with body := b } }
def privM (p : Prog) (z : Thr × Nat) : List Prog := z.1.privs.zipIdx.map fun y => { p with threads := putAt p.threads z.2 { z.1 with privs := outAt z.1.privs y.2 } }
def cutsM (n : Nat) (p : Prog) : List Prog :=
  (if 1 < p.threads.length then p.threads.zipIdx.map fun z => { p with threads := outAt p.threads z.2 } else []) ++
  p.threads.zipIdx.flatMap (thrM (remM n) p) ++ p.threads.zipIdx.flatMap (thrM (hoiM n) p) ++
  (p.boxes.zipIdx.map fun z => { p with boxes := outAt p.boxes z.2 }) ++ (p.locks.zipIdx.map fun z => { p with locks := outAt p.locks z.2 }) ++
  (p.queues.zipIdx.map fun z => { p with queues := outAt p.queues z.2 }) ++ (p.bags.zipIdx.map fun z => { p with bags := outAt p.bags z.2 }) ++
  p.threads.zipIdx.flatMap (privM p)
/-- what the first j of a list give -/
def partG {α β : Type} (F : α × Nat → List β) (l : List α) (j : Nat) : List β := (l.zipIdx.take j).flatMap F
theorem partG_zero {α β : Type} {F : α × Nat → List β} {l : List α} : partG F l 0 = [] := rfl
theorem partG_succ {α β : Type} {F : α × Nat → List β} {l : List α} {j : Nat} {s : α} (h : l[j]? = some s) : partG F l (j + 1) = partG F l j ++ F (s, j) := by
  unfold partG
  have hz : l.zipIdx[j]? = some (s, j) := by rw [List.getElem?_zipIdx, h]; simp
  rw [take_snoc hz, flatMap_snoc]
theorem partG_all {α β : Type} {F : α × Nat → List β} {l : List α} {j : Nat} (h : l.length ≤ j) : partG F l j = l.zipIdx.flatMap F := by
  unfold partG
  rw [List.take_of_length_le (by simpa using h)]
theorem partG_len {α β : Type} {F : α × Nat → List β} {l : List α} {c : Nat} (h : ∀ s j, s ∈ l → (F (s, j)).length ≤ c) : ∀ j, (partG F l j).length ≤ c * j
  | 0 => Nat.zero_le _
  | j + 1 => by
    have ih := partG_len h j
    by_cases hj : j < l.length
    · rw [partG_succ (List.getElem?_eq_getElem hj), List.length_append]
      have := h l[j] j (List.getElem_mem hj)
      rw [Nat.mul_add]
      omega
    · have e : partG F l (j + 1) = partG F l j := by rw [partG_all (by omega), partG_all (by omega)]
      rw [e, Nat.mul_add]
      omega
theorem flatMap_one {α β : Type} (f : α → β) (l : List α) : l.flatMap (fun x => [f x]) = l.map f := by
  induction l with
  | nil => rfl
  | cons a l ih => simp [ih]
theorem get_of_lt {α : Type} {l : List α} {j : Nat} (h : j < l.length) : ∃ s, l[j]? = some s := ⟨l[j], List.getElem?_eq_getElem h⟩
theorem map_get {α β : Type} {f : α → β} {l : List α} {j : Nat} {x : β} (h : (l.map f)[j]? = some x) : ∃ y, l[j]? = some y ∧ f y = x := by
  rw [List.getElem?_map] at h
  cases e : l[j]? with
  | none => rw [e] at h; cases h
  | some y => rw [e] at h; exact ⟨y, rfl, Option.some.inj h⟩
theorem atI_map {α β : Type} {f : α → β} {l : List α} {j : Nat} {y : α} (h : l[j]? = some y) : atI (l.map f) (j : Int) = some (f y) := atI_nat (by rw [List.getElem?_map, h]; rfl)
/-! the four kinds of declarations, by their place -/
def Prog.encL (p : Prog) : List A := [.str p.name, .tup p.boxes, .tup p.locks, .tup p.queues, .tup p.bags, .tup (p.threads.map Thr.enc)]
theorem Prog.enc_L (p : Prog) : p.enc = .tup p.encL := rfl
def fldM (p : Prog) : Nat → List A
  | 0 => p.boxes
  | 1 => p.locks
  | 2 => p.queues
  | _ => p.bags
def setFld (p : Prog) : Nat → List A → Prog
  | 0, l => { p with boxes := l }
  | 1, l => { p with locks := l }
  | 2, l => { p with queues := l }
  | _, l => { p with bags := l }
theorem fld_at (p : Prog) : ∀ i : Nat, i < 4 → atI p.encL (1 + (i : Int)) = some (.tup (fldM p i))
  | 0, _ => rfl
  | 1, _ => rfl
  | 2, _ => rfl
  | 3, _ => rfl
theorem fld_put (p : Prog) (x : List A) : ∀ i : Nat, i < 4 → A.tup (cut p.encL none (some (1 + (i : Int))) ++ [.tup x] ++ cut p.encL (some (1 + (i : Int) + 1)) none) = (setFld p i x).enc
  | 0, _ => rfl
  | 1, _ => rfl
  | 2, _ => rfl
  | 3, _ => rfl
theorem fld_cut_len (p : Prog) (i : Nat) : (cut p.encL none (some (1 + (i : Int)))).length ≤ 6 ∧ (cut p.encL (some (1 + (i : Int) + 1)) none).length ≤ 6 := by
  have h1 : (cut p.encL none (some (1 + (i : Int)))) = p.encL.take (1 + i) := cut_to p.encL (1 + i)
  have h2 : (cut p.encL (some (1 + (i : Int) + 1)) none) = p.encL.drop (1 + i + 1) := cut_from p.encL (1 + i + 1)
  rw [h1, h2, List.length_take, List.length_drop]
  have : p.encL.length = 6 := rfl
  omega
def declM (p : Prog) (i : Nat) : List Prog := (fldM p i).zipIdx.map fun z => setFld p i (outAt (fldM p i) z.2)
def declsM (p : Prog) : Nat → List Prog
  | 0 => []
  | i + 1 => declsM p i ++ declM p i
theorem cutsM_eq (n : Nat) (p : Prog) : cutsM n p = (if 1 < p.threads.length then p.threads.zipIdx.map fun z => { p with threads := outAt p.threads z.2 } else []) ++
  p.threads.zipIdx.flatMap (thrM (remM n) p) ++ p.threads.zipIdx.flatMap (thrM (hoiM n) p) ++ declsM p 4 ++ p.threads.zipIdx.flatMap (privM p) := by
  simp only [cutsM, declsM, declM, fldM, setFld, List.nil_append, List.append_assoc]
theorem zipIdx_map_take {α β : Type} (f : α × Nat → β) (l : List α) (j : Nat) : (l.zipIdx.map f).take j = (l.zipIdx.take j).map f := by rw [List.map_take]
end WA

set_option Elab.async false
set_option maxRecDepth 100000
set_option maxHeartbeats 2000000
set_option linter.all false
/-! the readings, shape by shape: what is not known yet is left as it stands; what follows it is held where simp does not look (as an instance) -/
namespace WA
open PySem L2

class Hk (α : Type) where
  run : α → Prop
class HQ where
  run : A → Store → Prop
class HR where
  run : Env' → Store → Prop
class HL where
  g : ATG
  tb : ATS
  D : AEnds
class HC where
  g : ATG
  tt : ATT
  te : ATE
  Dd : Addr
  Qd : Store → Prop
class HU where
  t : ATS
  u : ATS
  D : AEnds
class HW where
  c : ATT
  tb : ATS
  D : AEnds
def KO {α : Type} (o : Option α) [k : Hk α] : Prop := match o with
  | some x => k.run x
  | none => False
theorem KO_some {α : Type} {x : α} {k : α → Prop} : @KO α (some x) ⟨k⟩ = k x := rfl
theorem KO_none {α : Type} {k : α → Prop} : @KO α none ⟨k⟩ = False := rfl
theorem KO_of {α : Type} {o : Option α} {x : α} {k : α → Prop} (h : o = some x) (q : k x) : @KO α o ⟨k⟩ := by rw [h]; exact q
/-- a slot of the frame -/
def KV (o : Option (Option A)) [k : Hk A] : Prop := match o with
  | some (some x) => k.run x
  | _ => False
theorem KV_some {x : A} {k : A → Prop} : @KV (some (some x)) ⟨k⟩ = k x := rfl
def KB (x : A) [k : Hk Bool] : Prop := match x with
  | .bl b => k.run b
  | _ => False
theorem KB_bl {b : Bool} {k : Bool → Prop} : @KB (.bl b) ⟨k⟩ = k b := rfl
def KI (x : A) [k : Hk Int] : Prop := match x with
  | .int b => k.run b
  | _ => False
theorem KI_int {b : Int} {k : Int → Prop} : @KI (.int b) ⟨k⟩ = k b := rfl
def K1 (xs : List A) [k : Hk A] : Prop := match xs with
  | [x] => k.run x
  | _ => False
theorem K1_one {x : A} {k : A → Prop} : @K1 [x] ⟨k⟩ = k x := rfl
def K2 (xs : List A) [k : Hk (A × A)] : Prop := match xs with
  | [x, y] => k.run (x, y)
  | _ => False
theorem K2_two {x y : A} {k : A × A → Prop} : @K2 [x, y] ⟨k⟩ = k (x, y) := rfl
def Cal (sp : ASp) (xs : List A) (S : Store) [q : HQ] : Prop := sp xs S q.run
theorem Cal_of {sp : ASp} {xs : List A} {S : Store} {Q : AK} (h : sp xs S Q) : @Cal sp xs S ⟨Q⟩ := h
def Op (r : AOp) (x y : A) (S : Store) [q : HQ] : Prop := r x y S q.run
theorem Op_of {r : AOp} {x y : A} {S : Store} {Q : AK} (h : r x y S Q) : @Op r x y S ⟨Q⟩ := h
def Cb (r : AC) (xs : List A) (S : Store) [q : HQ] : Prop := r xs S q.run
theorem Cb_of {r : AC} {xs : List A} {S : Store} {Q : AK} (h : r xs S Q) : @Cb r xs S ⟨Q⟩ := h
def Me (r : AM) (x : A) (xs : List A) (S : Store) [q : HQ] : Prop := r x xs S q.run
theorem Me_of {r : AM} {x : A} {xs : List A} {S : Store} {Q : AK} (h : r x xs S Q) : @Me r x xs S ⟨Q⟩ := h
def Sli (r : ASlR) (x : A) (lo hi : Option Int) (S : Store) [q : HQ] : Prop := r x lo hi S q.run
theorem Sli_of {r : ASlR} {x : A} {lo hi : Option Int} {S : Store} {Q : AK} (h : r x lo hi S Q) : @Sli r x lo hi S ⟨Q⟩ := h
/-- a target that takes a tuple apart -/
def Tg (n : Nat) (gs : ATGs) (x : A) (env : Env') (S : Store) [q : HR] : Prop := agTup n gs x env S q.run
def Tc (g : ATG) (gs : ATGs) (xs : List A) (env : Env') (S : Store) [q : HR] : Prop := agCons g gs xs env S q.run
def Sb (o i x : A) (S : Store) [q : Hk Store] : Prop := match o, i with
  | .ref a, .int k => (match S a with
    | some (.lst l) => ∃ j, ixN l.length k = some j ∧ q.run (us S a (.lst (l.set j x)))
    | _ => False)
  | _, _ => False
def LoopH (J : AIt) (env : Env') (S : Store) [c : HL] : Prop := Loop c.g c.tb c.D J env S
theorem LoopH_of {g : ATG} {tb : ATS} {D : AEnds} {J : AIt} {env : Env'} {S : Store} (h : Loop g tb D J env S) : @LoopH J env S ⟨g, tb, D⟩ := h
def LcH (J : AIt) (env : Env') (S : Store) [c : HC] : Prop := LcLoop c.g c.tt c.te c.Dd c.Qd J env S
theorem LcH_of {g : ATG} {tt : ATT} {te : ATE} {Dd : Addr} {Qd : Store → Prop} {J : AIt} {env : Env'} {S : Store} (h : LcLoop g tt te Dd Qd J env S) : @LcH J env S ⟨g, tt, te, Dd, Qd⟩ := h
def CutH (env : Env') (S : Store) [c : HU] : Prop := aCut c.t c.u c.D env S
theorem CutH_of {t u : ATS} {D : AEnds} {env : Env'} {S : Store} (Mid : Env' → Store → Prop) (h : t { D with nx := Mid } env S) (k : ∀ env' S', Mid env' S' → u D env' S') : @CutH env S ⟨t, u, D⟩ := ⟨Mid, h, k⟩
def WhileH (env : Env') (S : Store) [c : HW] : Prop := aWhile c.c c.tb c.D env S
theorem WhileH_of {c : ATT} {tb : ATS} {D : AEnds} {env : Env'} {S : Store} (h : aWhile c tb D env S) : @WhileH env S ⟨c, tb, D⟩ := h
/-- the list at a place -/
def lsO : Option MO → Option (List A)
  | some (.lst l) => some l
  | _ => none
theorem lsO_lst {l : List A} : lsO (some (.lst l)) = some l := rfl
theorem lsO_ks {o : Option MO} {Q : List A → Prop} : (match o with | some (.lst l) => Q l | _ => False) = @KO (List A) (lsO o) ⟨Q⟩ := by
  cases o with
  | none => rfl
  | some m => cases m <;> rfl
theorem KO_ex {α : Type} {o : Option α} {Q : α → Prop} : (∃ y, o = some y ∧ Q y) = @KO α o ⟨Q⟩ := by
  cases o with
  | none => simp [KO]
  | some y => simp [KO]
theorem KO_mt {α : Type} {o : Option α} {Q : α → Prop} : (match o with | some y => Q y | none => False) = @KO α o ⟨Q⟩ := by cases o <;> rfl

section
variable {t tb ta te to ti : ATE} {tt : ATT} {ts tu : ATS} {aa : ATA} {env env' : Env'} {S S' : Store} {Q : AK} {x x' y y' : A} {i j : Int} {a b : Addr} {l m xs xs' : List A} {z w : Str} {D : AEnds} {neg c d : Bool} {lo hi : Option Int} {sp sp1 sp2 : ASp} {g : ATG} {gs : ATGs} {wi : ATI}
theorem aVar_ {k : Nat} : aVar k env S Q = @KV env[k]? ⟨fun x => Q x S⟩ := by
  unfold aVar
  cases env[k]? with
  | none => rfl
  | some o => cases o <;> rfl
theorem aTest_ {R : Bool → Store → Prop} : aTest t env S R = t env S fun x S1 => @KB x ⟨fun b => R b S1⟩ := by unfold aTest; first | rfl | (congr; done) | (congr; funext x S1; cases x <;> rfl)
theorem aAndV_ : aAndV ta tb env S Q = ta env S fun x S1 => @KB x ⟨fun c => if c = true then tb env S1 Q else Q (.bl false) S1⟩ := by unfold aAndV; first | rfl | (congr; done) | (congr; funext x S1; cases x <;> rfl)
theorem aOrV_ : aOrV ta tb env S Q = ta env S fun x S1 => @KB x ⟨fun c => if c = true then Q (.bl true) S1 else tb env S1 Q⟩ := by unfold aOrV; first | rfl | (congr; done) | (congr; funext x S1; cases x <;> rfl)
theorem aNotV_ : aNotV ta env S Q = ta env S fun x S1 => @KB x ⟨fun c => Q (.bl (!c)) S1⟩ := by unfold aNotV; first | rfl | (congr; done) | (congr; funext x S1; cases x <;> rfl)
theorem aPart_ {R : Option Int → Store → Prop} : aPart t env S R = t env S fun x S1 => @KI x ⟨fun i => R (some i) S1⟩ := by unfold aPart; first | rfl | (congr; done) | (congr; funext x S1; cases x <;> rfl)
theorem aNeg_ : aUn aNeg ta env S Q = ta env S fun x S1 => @KI x ⟨fun i => Q (.int (-i)) S1⟩ := by unfold aUn; first | rfl | (congr; done) | (congr; funext x S1; cases x <;> rfl)
theorem aCall_ : aCall sp aa env S Q = aa env S fun xs S1 => @Cal sp xs S1 ⟨Q⟩ := rfl
theorem aCallV_ {k : Nat} {f1 f2 : Addr} : aCallV k f1 f2 sp1 sp2 aa env S Q = @KV env[k]? ⟨fun x => match x with
  | .ref h => (h = f1 ∧ aa env S fun xs S1 => @Cal sp1 xs S1 ⟨Q⟩) ∨ (h = f2 ∧ aa env S fun xs S1 => @Cal sp2 xs S1 ⟨Q⟩)
  | _ => False⟩ := by
  unfold aCallV
  cases env[k]? with
  | none => rfl
  | some o => cases o with
    | none => rfl
    | some x => cases x <;> rfl
theorem aOp_ {r : AOp} : aOp r ta tb env S Q = ta env S fun x S1 => tb env S1 fun y S2 => @Op r x y S2 ⟨Q⟩ := rfl
theorem aCB_ {r : AC} : aCB r aa env S Q = aa env S fun xs S1 => @Cb r xs S1 ⟨Q⟩ := rfl
theorem aMeth_ {Ps : Store → A → Prop} {r : AM} : aMeth Ps r to aa env S Q = to env S fun x S1 => Ps S1 x ∧ aa env S1 fun xs S2 => @Me r x xs S2 ⟨Q⟩ := rfl
theorem aSl_ {r : ASlR} {tl th : AO} : aSl r te tl th env S Q = te env S fun x S1 => tl env S1 fun l S2 => th env S2 fun u S3 => @Sli r x l u S3 ⟨Q⟩ := rfl
/-! operators -/
theorem oI0_ {g : Int → Int → A} : @Op (aI0 g) (.int i) (.int j) S ⟨Q⟩ = Q (g i j) S := rfl
theorem oI_ {C : Int → Int → Prop} {g : Int → Int → A} : @Op (aI C g) (.int i) (.int j) S ⟨Q⟩ = (C i j ∧ Q (g i j) S) := rfl
theorem oSub : @Op aSub (.int i) (.int j) S ⟨Q⟩ = Q (.int (i - j)) S := rfl
theorem oMul : @Op aMul (.int i) (.int j) S ⟨Q⟩ = (CMul i j ∧ Q (.int (i * j)) S) := rfl
theorem oFdiv : @Op aFdiv (.int i) (.int j) S ⟨Q⟩ = (CDiv i j ∧ Q (.int (i / j)) S) := rfl
theorem oMod : @Op aMod (.int i) (.int j) S ⟨Q⟩ = (0 < j ∧ Q (.int (i % j)) S) := rfl
theorem oPow : @Op aPow (.int i) (.int j) S ⟨Q⟩ = (CPow i j ∧ Q (.int (i ^ j.toNat)) S) := rfl
theorem oShl : @Op aShl (.int i) (.int j) S ⟨Q⟩ = (CPow i j ∧ Q (.int (i * 2 ^ j.toNat)) S) := rfl
theorem oShr : @Op aShr (.int i) (.int j) S ⟨Q⟩ = (0 ≤ j ∧ Q (.int (i / 2 ^ j.toNat)) S) := rfl
theorem oBand : @Op aBand (.int i) (.int j) S ⟨Q⟩ = Q (.int (Builtin.bitAnd i j)) S := rfl
theorem oBor : @Op aBor (.int i) (.int j) S ⟨Q⟩ = Q (.int (Builtin.bitOr i j)) S := rfl
theorem oLt : @Op aLt (.int i) (.int j) S ⟨Q⟩ = Q (.bl (decide (i < j))) S := rfl
theorem oLe : @Op aLe (.int i) (.int j) S ⟨Q⟩ = Q (.bl (decide (i ≤ j))) S := rfl
theorem oGt : @Op aGt (.int i) (.int j) S ⟨Q⟩ = Q (.bl (decide (j < i))) S := rfl
theorem oGe : @Op aGe (.int i) (.int j) S ⟨Q⟩ = Q (.bl (decide (j ≤ i))) S := rfl
theorem oAdd_int : @Op aAdd (.int i) (.int j) S ⟨Q⟩ = Q (.int (i + j)) S := rfl
theorem oAdd_str : @Op aAdd (.str z) (.str w) S ⟨Q⟩ = (z.length + w.length ≤ sizeLine ∧ Q (.str (z ++ w)) S) := rfl
theorem oAdd_tup : @Op aAdd (.tup l) (.tup m) S ⟨Q⟩ = (l.length + m.length ≤ sizeLine ∧ Q (.tup (l ++ m)) S) := rfl
theorem oAdd_ref : @Op aAdd (.ref a) (.ref b) S ⟨Q⟩ = @KO _ (lsO (S a)) ⟨fun l => @KO _ (lsO (S b)) ⟨fun m => l.length + m.length ≤ sizeLine ∧ ∀ p, S p = none → Q (.ref p) (us S p (.lst (l ++ m)))⟩⟩ := by
  show (match S a, S b with
    | some (.lst l), some (.lst m) => l.length + m.length ≤ sizeLine ∧ ∀ p, S p = none → Q (.ref p) (us S p (.lst (l ++ m)))
    | _, _ => False) = _
  generalize S a = o1
  generalize S b = o2
  rcases o1 with _ | o1
  · rfl
  · cases o1 <;> first | rfl | (rcases o2 with _ | o2 <;> first | rfl | (cases o2 <;> rfl))
theorem oEq_int : @Op aEq (.int i) (.int j) S ⟨Q⟩ = Q (.bl (decide (i = j))) S := rfl
theorem oEq_str : @Op aEq (.str z) (.str w) S ⟨Q⟩ = Q (.bl (decide (z = w))) S := rfl
theorem oEq_bl : @Op aEq (.bl c) (.bl d) S ⟨Q⟩ = Q (.bl (decide (c = d))) S := rfl
theorem oEq_tup : @Op aEq (.tup l) (.tup m) S ⟨Q⟩ = @Op (eqGen false) (.tup l) (.tup m) S ⟨Q⟩ := rfl
theorem oEq_ref : @Op aEq (.ref a) (.ref b) S ⟨Q⟩ = @Op (eqGen false) (.ref a) (.ref b) S ⟨Q⟩ := rfl
theorem oNe_int : @Op aNe (.int i) (.int j) S ⟨Q⟩ = Q (.bl (!decide (i = j))) S := rfl
theorem oNe_str : @Op aNe (.str z) (.str w) S ⟨Q⟩ = Q (.bl (!decide (z = w))) S := rfl
theorem oNe_bl : @Op aNe (.bl c) (.bl d) S ⟨Q⟩ = Q (.bl (!decide (c = d))) S := rfl
theorem oNe_tup : @Op aNe (.tup l) (.tup m) S ⟨Q⟩ = @Op (eqGen true) (.tup l) (.tup m) S ⟨Q⟩ := rfl
theorem oNe_ref : @Op aNe (.ref a) (.ref b) S ⟨Q⟩ = @Op (eqGen true) (.ref a) (.ref b) S ⟨Q⟩ := rfl
/-- is x among l -/
def inL (l : List A) (x : A) : Bool := l.any fun z => eqA z x
theorem oIn_tup : @Op (aIn neg) x (.tup l) S ⟨Q⟩ = (flatA x = true ∧ l.all flatA = true ∧ Q (.bl (if neg = true then !inL l x else inL l x)) S) := rfl
theorem oIn_fl : @Op (aIn neg) x (.fl l) S ⟨Q⟩ = (flatA x = true ∧ l.all flatA = true ∧ Q (.bl (if neg = true then !inL l x else inL l x)) S) := rfl
theorem oIn_ref : @Op (aIn neg) x (.ref a) S ⟨Q⟩ = @KO _ (lsO (S a)) ⟨fun l => flatA x = true ∧ l.all flatA = true ∧ Q (.bl (if neg = true then !inL l x else inL l x)) S⟩ := by
  show aIn neg x (.ref a) S Q = _
  unfold aIn
  cases e : S a with
  | none => simp only [seqOf, e, lsO, KO] <;> first | done | (cases x <;> rfl)
  | some o => cases o <;> simp only [seqOf, e, lsO, KO] <;> first | done | rfl | (cases x <;> rfl)
/-- the text z in w -/
def strIn (z w : Str) : Bool := !(Builtin.Str.occurrences w z 0 w.length 1).isEmpty
theorem oIn_str : @Op (aIn neg) (.str z) (.str w) S ⟨Q⟩ = Q (.bl (if neg = true then !strIn z w else strIn z w)) S := rfl
theorem oIx_tup : @Op aIx (.tup l) (.int i) S ⟨Q⟩ = @KO _ (atI l i) ⟨fun z => Q z S⟩ := by show ixAt l i S Q = _; unfold ixAt; cases atI l i <;> rfl
theorem oIx_fl : @Op aIx (.fl l) (.int i) S ⟨Q⟩ = @KO _ (atI l i) ⟨fun z => Q z S⟩ := by show ixAt l i S Q = _; unfold ixAt; cases atI l i <;> rfl
theorem oIx_ref : @Op aIx (.ref a) (.int i) S ⟨Q⟩ = @KO _ (lsO (S a)) ⟨fun l => @KO _ (atI l i) ⟨fun z => Q z S⟩⟩ := by
  show ixSeq (seqOf S (.ref a)) (.ref a) i S Q = _
  cases e : S a with
  | none => simp only [seqOf, e, lsO, KO]; rfl
  | some o => cases o <;> simp only [seqOf, e, lsO, KO] <;> first | rfl | (simp only [ixSeq, ixAt]; done) | (simp only [ixSeq, ixAt]; rename_i l; cases atI l i <;> rfl)
theorem oIx_str : @Op aIx (.str z) (.int i) S ⟨Q⟩ = (z.length ≤ sizeLine ∧ ∃ c, atI z.cps.toList i = some c ∧ Q (.str ⟨#[c]⟩) S) := rfl
theorem sl_tup : @Sli aSlice (.tup l) lo hi S ⟨Q⟩ = Q (.tup (cut l lo hi)) S := rfl
theorem sl_fl : @Sli aSlice (.fl l) lo hi S ⟨Q⟩ = ∀ p, S p = none → Q (.ref p) (us S p (.lst (cut l lo hi))) := rfl
theorem sl_ref : @Sli aSlice (.ref a) lo hi S ⟨Q⟩ = @KO _ (lsO (S a)) ⟨fun l => ∀ p, S p = none → Q (.ref p) (us S p (.lst (cut l lo hi)))⟩ := lsO_ks
theorem sl_str : @Sli aSlice (.str z) lo hi S ⟨Q⟩ = (z.length ≤ sizeLine ∧ Q (.str (cutS z lo hi)) S) := rfl
theorem seqOf_tup : seqOf S (.tup l) = some l := rfl
theorem seqOf_fl : seqOf S (.fl l) = some l := rfl
theorem seqOf_ref : seqOf S (.ref a) = lsO (S a) := by
  unfold seqOf
  cases e : S a with
  | none => simp only [e, lsO]
  | some o => cases o <;> simp only [e, lsO]
theorem cLen_str : @Cb aLen [.str z] S ⟨Q⟩ = (z.length ≤ sizeLine ∧ Q (.int (z.length : Nat)) S) := rfl
theorem cLen_tup : @Cb aLen [.tup l] S ⟨Q⟩ = Q (.int (l.length : Nat)) S := rfl
theorem cLen_fl : @Cb aLen [.fl l] S ⟨Q⟩ = Q (.int (l.length : Nat)) S := rfl
theorem cLen_ref : @Cb aLen [.ref a] S ⟨Q⟩ = @KO _ (lsO (S a)) ⟨fun l => Q (.int (l.length : Nat)) S⟩ := by
  show (match seqOf S (.ref a) with | some l => Q (.int (l.length : Nat)) S | none => False) = _
  rw [seqOf_ref]
  cases lsO (S a) <;> rfl
theorem cList_ : @Cb aList [x] S ⟨Q⟩ = @KO _ (seqOf S x) ⟨fun l => ∀ p, S p = none → Q (.ref p) (us S p (.lst l))⟩ := by
  show (match seqOf S x with | some l => ∀ p, S p = none → Q (.ref p) (us S p (.lst l)) | none => False) = _
  cases seqOf S x <;> rfl
theorem cTuple_ : @Cb aTuple [x] S ⟨Q⟩ = @KO _ (seqOf S x) ⟨fun l => Q (.tup l) S⟩ := by
  show (match seqOf S x with | some l => Q (.tup l) S | none => False) = _
  cases seqOf S x <;> rfl
theorem cInt_int : @Cb aInt [.int i] S ⟨Q⟩ = Q (.int i) S := rfl
theorem cInt_bl : @Cb aInt [.bl c] S ⟨Q⟩ = Q (.int (if c then 1 else 0)) S := rfl
theorem isLst_ref : isLst S (.ref a) = @KO _ (lsO (S a)) ⟨fun _ => True⟩ := by
  refine propext ⟨fun ⟨l, e⟩ => by rw [e]; trivial, fun h => ?_⟩
  cases e : S a with
  | none => rw [e] at h; exact h.elim
  | some o => cases o with
    | lst l => exact ⟨l, e⟩
    | _ => rw [e] at h; exact h.elim
theorem mAppend : @Me aAppend (.ref a) [y] S ⟨Q⟩ = @KO _ (lsO (S a)) ⟨fun l => l.length < sizeLine ∧ Q .non (us S a (.lst (l ++ [y])))⟩ := lsO_ks
theorem mExtend : @Me aExtend (.ref a) [.ref b] S ⟨Q⟩ = @KO _ (lsO (S a)) ⟨fun l => @KO _ (lsO (S b)) ⟨fun m => l.length + m.length ≤ sizeLine ∧ Q .non (us S a (.lst (l ++ m)))⟩⟩ := by
  show (match S a, S b with
    | some (.lst l), some (.lst m) => l.length + m.length ≤ sizeLine ∧ Q .non (us S a (.lst (l ++ m)))
    | _, _ => False) = _
  generalize S a = o1
  generalize S b = o2
  rcases o1 with _ | o1
  · rfl
  · cases o1 <;> first | rfl | (rcases o2 with _ | o2 <;> first | rfl | (cases o2 <;> rfl))
theorem mPop_0 : @Me aPop (.ref a) [] S ⟨Q⟩ = @KO _ (lsO (S a)) ⟨fun l => @KO _ l[l.length - 1]? ⟨fun y => Q y (us S a (.lst l.dropLast))⟩⟩ := by
  have e : @Me aPop (.ref a) [] S ⟨Q⟩ = (match S a with | some (.lst l) => ∃ y, l[l.length - 1]? = some y ∧ Q y (us S a (.lst l.dropLast)) | _ => False) := rfl
  rw [e, lsO_ks]
  congr; funext l
  exact KO_ex
theorem mPop_1 : @Me aPop (.ref a) [.int i] S ⟨Q⟩ = @KO _ (lsO (S a)) ⟨fun l => -(2 ^ 63) ≤ i ∧ i < 2 ^ 63 ∧ @KO _ (seqIndex? i l.length) ⟨fun k => @KO _ l[k]? ⟨fun y => Q y (us S a (.lst (l.eraseIdx k)))⟩⟩⟩ := by
  have e : @Me aPop (.ref a) [.int i] S ⟨Q⟩ = (match S a with | some (.lst l) => -(2 ^ 63) ≤ i ∧ i < 2 ^ 63 ∧ ∃ k y, seqIndex? i l.length = some k ∧ l[k]? = some y ∧ Q y (us S a (.lst (l.eraseIdx k))) | _ => False) := rfl
  rw [e, lsO_ks]
  congr; funext l
  congr
  rw [← KO_ex]
  refine propext ⟨fun ⟨k, y, h1, h2, h3⟩ => ⟨k, h1, ?_⟩, fun ⟨k, h1, h⟩ => ?_⟩
  · rw [← KO_ex]; exact ⟨y, h2, h3⟩
  · rw [← KO_ex] at h
    obtain ⟨y, h2, h3⟩ := h
    exact ⟨k, y, h1, h2, h3⟩
/-! targets -/
variable {R : Env' → Store → Prop}
theorem agTup_ {n : Nat} : agTup n gs x env S R = @Tg n gs x env S ⟨R⟩ := rfl
theorem agCons_ : agCons g gs xs env S R = @Tc g gs xs env S ⟨R⟩ := rfl
theorem Tg_ {n : Nat} : @Tg n gs (.tup l) env S ⟨R⟩ = (l.length = n ∧ gs l env S R) := rfl
theorem Tc_ : @Tc g gs (x :: xs) env S ⟨R⟩ = g x env S fun env1 S1 => gs xs env1 S1 R := rfl
theorem agSub_ : agSub to ti x env S R = to env S fun o S1 => ti env S1 fun i S2 => @Sb o i x S2 ⟨R env⟩ := by
  unfold agSub
  first | rfl | (congr; done) | (congr; funext o S1; congr; funext i S2; cases o <;> first | rfl | (cases i <;> rfl))
theorem Sb_ {R : Store → Prop} : @Sb (.ref a) (.int i) x S ⟨R⟩ = @KO _ (lsO (S a)) ⟨fun l => @KO _ (ixN l.length i) ⟨fun j => R (us S a (.lst (l.set j x)))⟩⟩ := by
  have e : @Sb (.ref a) (.int i) x S ⟨R⟩ = (match S a with | some (.lst l) => ∃ j, ixN l.length i = some j ∧ R (us S a (.lst (l.set j x))) | _ => False) := rfl
  rw [e, lsO_ks]
  congr; funext l
  exact KO_ex
/-! loops -/
theorem itOf_tup : itOf S (.tup l) = some (itC l) := rfl
theorem itOf_fl : itOf S (.fl l) = some (itC l) := rfl
theorem itOf_ref : itOf S (.ref a) = (lsO (S a)).map fun _ => itL a := by
  unfold itOf
  cases e : S a with
  | none => simp only [e, lsO, Option.map]
  | some o => cases o <;> simp only [e, lsO, Option.map]
theorem aiSeq_ {R : AIt → Store → Prop} : aiSeq te env S R = te env S fun x S1 => @KO _ (itOf S1 x) ⟨fun J => R J S1⟩ := by unfold aiSeq; first | rfl | (congr; done) | (congr; funext x S1; cases itOf S1 x <;> rfl)
theorem aiEnum_ {R : AIt → Store → Prop} : aiEnum aa env S R = aa env S fun xs S1 => @K1 xs ⟨fun x => @KO _ (itOf S1 x) ⟨fun J => R (itE J) S1⟩⟩ := by
  unfold aiEnum
  congr; funext xs S1
  match xs with
  | [] => rfl
  | [x] =>
    show (match itOf S1 x with | some J => R (itE J) S1 | none => False) = @KO _ (itOf S1 x) ⟨fun J => R (itE J) S1⟩
    cases itOf S1 x <;> rfl
  | _ :: _ :: _ => rfl
theorem aiRng1_ {R : AIt → Store → Prop} : aiRng1 aa env S R = aa env S fun xs S1 => @K1 xs ⟨fun x => @KI x ⟨fun j => -(2 ^ 62) ≤ j ∧ j < 2 ^ 62 ∧ R (itR 0 j.toNat) S1⟩⟩ := by
  unfold aiRng1
  congr; funext xs S1
  rcases xs with _ | ⟨x, _ | ⟨y, xs⟩⟩
  · rfl
  · cases x <;> rfl
  · cases x <;> rfl
theorem aiRng2_ {R : AIt → Store → Prop} : aiRng2 aa env S R = aa env S fun xs S1 => @K2 xs ⟨fun p => @KI p.1 ⟨fun i => @KI p.2 ⟨fun j => (-(2 ^ 62) ≤ i ∧ i < 2 ^ 62 ∧ -(2 ^ 62) ≤ j ∧ j < 2 ^ 62) ∧ R (itR i (j - i).toNat) S1⟩⟩⟩ := by
  unfold aiRng2
  congr; funext xs S1
  rcases xs with _ | ⟨x, _ | ⟨y, _ | ⟨z, xs⟩⟩⟩
  · rfl
  · cases x <;> rfl
  · cases x <;> first | rfl | (cases y <;> rfl)
  · cases x <;> first | rfl | (cases y <;> rfl)
theorem aFor_ : aFor wi g ts D env S = wi env S fun J S1 => @LoopH J env S1 ⟨g, ts, D⟩ := rfl
theorem aLc_ {ws : List Nat} : aLc wi g tt te ws env S Q = wi env S fun J S1 => ∀ D, S1 D = none → @LcH J (wipeA env ws) S1 ⟨g, tt, te, D, fun S => Q (.ref D) S⟩ := rfl
theorem aCut_ : aCut ts tu D env S = @CutH env S ⟨ts, tu, D⟩ := rfl
theorem aWhile_ : aWhile tt ts D env S = @WhileH env S ⟨tt, ts, D⟩ := rfl
end
/-! places -/
theorem ixN_1_0 : ixN 1 0 = some 0 := rfl
theorem ixN_5_0 : ixN 5 0 = some 0 := rfl
theorem ixN_5_1 : ixN 5 1 = some 1 := rfl
theorem ixN_5_2 : ixN 5 2 = some 2 := rfl
theorem ixN_5_3 : ixN 5 3 = some 3 := rfl
theorem ixN_5_4 : ixN 5 4 = some 4 := rfl
end WA

set_option Elab.async false
set_option maxRecDepth 100000
set_option maxHeartbeats 2000000
set_option linter.all false
namespace WA
open PySem L2

/-! what a generator may change: all else stays -/
def Fr (M : List Addr) (S S' : Store) : Prop := ∀ p m, p ∉ M → S p = some m → S' p = some m
theorem Fr.refl (M : List Addr) (S : Store) : Fr M S S := fun _ _ _ h => h
theorem Fr.trans {M : List Addr} {S S1 S2 : Store} (a : Fr M S S1) (b : Fr M S1 S2) : Fr M S S2 := fun p m n h => b p m n (a p m n h)
theorem Fr.mono {M N : List Addr} {S S' : Store} (a : Fr M S S') (h : ∀ p ∈ M, p ∈ N) : Fr N S S' := fun p m n e => a p m (fun z => n (h p z)) e
theorem Fr.new {M : List Addr} {S S' : Store} {p : Addr} {m : MO} (a : Fr M S S') (h : S' p = none) : Fr M S (us S' p m) := fun q n hq e => by
  have := a q n hq e
  rw [us_ne (sne this h)]
  exact this
theorem Fr.put {M : List Addr} {S S' : Store} {p : Addr} {m : MO} (a : Fr M S S') (h : p ∈ M) : Fr M S (us S' p m) := fun q n hq e => by
  rw [us_ne (fun z => hq (by rw [z]; exact h))]
  exact a q n hq e
/-- what S does not name may change, too -/
theorem Fr.own {M : List Addr} {S S' : Store} {p : Addr} {m : MO} (a : Fr M S S') (h : S p = none) : Fr M S (us S' p m) := fun q n hq e => by
  rw [us_ne (sne e h)]
  exact a q n hq e
theorem Le.fr {S S' : Store} (a : Le S S') (M : List Addr) : Fr M S S' := fun p m _ e => a p m e
theorem Fr.le {S S' : Store} (a : Fr [] S S') : Le S S' := fun p m e => a p m (by simp) e
/-- the state of the draws at d, with the script's numbers at l -/
structure Dr (d l : Addr) (S : Store) : Prop where
  ex : ∃ (a b c e : Int) (ns : List Int), S d = some (.lst [.int a, .int b, .int c, .int e, .ref l]) ∧ S l = some (.lst (ns.map .int)) ∧ 0 ≤ a ∧ a < 2147483647 ∧ 0 ≤ b ∧ 0 ≤ c ∧ 0 ≤ e ∧ ns.length ≤ 63 ∧ d ≠ l
section
variable {d l p : Addr} {S S' : Store} {m : MO}
theorem Dr.le (h : Dr d l S) (f : Le S S') : Dr d l S' := by
  obtain ⟨a, b, c, e, ns, h1, h2, h3⟩ := h.ex
  exact ⟨a, b, c, e, ns, f _ _ h1, f _ _ h2, h3⟩
theorem Dr.nd (h : Dr d l S) (n : S p = none) : d ≠ p := by
  obtain ⟨a, b, c, e, ns, h1, h2, h3⟩ := h.ex
  exact sne h1 n
theorem Dr.nl (h : Dr d l S) (n : S p = none) : l ≠ p := by
  obtain ⟨a, b, c, e, ns, h1, h2, h3⟩ := h.ex
  exact sne h2 n
theorem Dr.put (h : Dr d l S) (hd : d ≠ p) (hl : l ≠ p) : Dr d l (us S p m) := by
  obtain ⟨a, b, c, e, ns, h1, h2, h3⟩ := h.ex
  exact ⟨a, b, c, e, ns, by rw [us_ne hd]; exact h1, by rw [us_ne hl]; exact h2, h3⟩
theorem Dr.new (h : Dr d l S) (n : S p = none) : Dr d l (us S p m) := h.put (h.nd n) (h.nl n)
/-- the draws stand, nothing else was touched but M -/
structure Dw (d l : Addr) (M : List Addr) (S S' : Store) : Prop where
  dr : Dr d l S'
  fr : Fr M S S'
theorem Dw.new {M : List Addr} {S0 : Store} (h : Dw d l M S0 S) (n : S p = none) : Dw d l M S0 (us S p m) := ⟨h.dr.new n, h.fr.new n⟩
theorem Dw.trans {M : List Addr} {S0 : Store} (h : Dw d l M S0 S) (k : Dw d l M S S') : Dw d l M S0 S' := ⟨k.dr, h.fr.trans k.fr⟩
theorem Dw.mono {M N : List Addr} (h : Dw d l M S S') (i : ∀ p ∈ M, p ∈ N) : Dw d l N S S' := ⟨h.dr, h.fr.mono i⟩
theorem Dw.refl (h : Dr d l S) (M : List Addr) : Dw d l M S S := ⟨h, Fr.refl M S⟩
theorem Dw.at {M : List Addr} {S0 : Store} (h : Dw d l M S0 S) (n : p ∉ M) (e : S0 p = some m) : S p = some m := h.fr p m n e
theorem Dw.own {M : List Addr} {S0 : Store} (h : Dw d l M S0 S) (h0 : Dr d l S0) (n : S0 p = none) : Dw d l M S0 (us S p m) := ⟨h.dr.put (h0.nd n) (h0.nl n), h.fr.own n⟩
theorem Dw.put {M : List Addr} {S0 : Store} (h : Dw d l M S0 S) (hd : d ≠ p) (hl : l ≠ p) (n : p ∈ M) : Dw d l M S0 (us S p m) := ⟨h.dr.put hd hl, h.fr.put n⟩
end
/-- the items of a tuple, of a list, that the draws do not touch -/
def Sq (M : List Addr) (S : Store) (x : A) (xs : List A) : Prop := x = .tup xs ∨ ∃ a, x = .ref a ∧ a ∉ M ∧ S a = some (.lst xs)
theorem Sq.fr {M : List Addr} {S S' : Store} {x : A} {xs : List A} (h : Sq M S x xs) (f : Fr M S S') : Sq M S' x xs := by
  rcases h with h | ⟨a, h1, h2, h3⟩
  · exact .inl h
  · exact .inr ⟨a, h1, h2, f _ _ h2 h3⟩
theorem Sq.seq {M : List Addr} {S : Store} {x : A} {xs : List A} (h : Sq M S x xs) : seqOf S x = some xs := by
  rcases h with rfl | ⟨a, rfl, h2, h3⟩
  · rfl
  · simp only [seqOf, h3]
theorem Sq.len {M : List Addr} {S : Store} {x : A} {xs : List A} {Q : AK} (h : Sq M S x xs) : @Cb aLen [x] S ⟨Q⟩ = Q (.int (xs.length : Nat)) S := by
  rcases h with rfl | ⟨a, rfl, h2, h3⟩
  · rfl
  · rw [cLen_ref, h3]; rfl
theorem seqIndex_nat {i n : Nat} (h : i < n) : seqIndex? (i : Int) n = some i := by
  unfold seqIndex?
  have h1 : (i : Int) < (n : Int) := by omega
  simp [h1]
  omega
theorem erase_perm {α : Type} {z : α} : ∀ {l : List α} {i : Nat}, l[i]? = some z → (z :: l.eraseIdx i).Perm l
  | [], _, h => by simp at h
  | y :: l, 0, h => by
    simp at h
    subst h
    exact .refl _
  | y :: l, i + 1, h => by
    have h : l[i]? = some z := by simpa using h
    rw [List.eraseIdx_cons_succ]
    exact (List.Perm.swap y z _).trans ((erase_perm h).cons y)
theorem if_dup {p q : Prop} [Decidable p] [Decidable q] {a b : Prop} (hb : b) (ha : p → q → a) : if p then (if q then a else b) else b := by
  split
  · rename_i h
    split
    · rename_i k
      exact ha h k
    · exact hb
  · exact hb
theorem Dw.sq {d l : Addr} {M : List Addr} {S S' : Store} {x : A} {xs : List A} (h : Dw d l M S S') (s : Sq M S x xs) : Sq M S' x xs := s.fr h.fr
/-! expressions, statements that the generator makes -/
/-- numbers -/
inductive NumOk (ns : List Str) : Nat → Ex → Prop where
  | num {d : Nat} {n : Int} : 0 ≤ n → n < 4 → NumOk ns d (.num n)
  | name {d : Nat} {x : Str} : x ∈ ns → NumOk ns d (.name x)
  | bin {d : Nat} {op : Str} {l r : Ex} : op ∈ [Str.ofString "+", Str.ofString "-", Str.ofString "*"] → NumOk ns d l → NumOk ns d r → NumOk ns (d + 1) (.bin op l r)
inductive TruOk (ns : List Str) : Nat → Ex → Prop where
  | not {d : Nat} {e : Ex} : TruOk ns d e → TruOk ns (d + 1) (.not e)
  | bin {d : Nat} {op : Str} {l r : Ex} : op ∈ [Str.ofString "and", Str.ofString "or"] → TruOk ns d l → TruOk ns d r → TruOk ns (d + 1) (.bin op l r)
  | cmp {d : Nat} {op : Str} {l r : Ex} : op ∈ [Str.ofString "=", Str.ofString "!=", Str.ofString "<", Str.ofString "<=", Str.ofString ">", Str.ofString ">="] → NumOk ns 1 l → NumOk ns 0 r → TruOk ns d (.bin op l r)
theorem NumOk.mono {ns ms : List Str} (h : ∀ x ∈ ns, x ∈ ms) {d : Nat} {e : Ex} (k : NumOk ns d e) : NumOk ms d e := by
  induction k with
  | num a b => exact .num a b
  | name a => exact .name (h _ a)
  | bin a _ _ i j => exact .bin a i j
theorem TruOk.mono {ns ms : List Str} (h : ∀ x ∈ ns, x ∈ ms) {d : Nat} {e : Ex} (k : TruOk ns d e) : TruOk ms d e := by
  induction k with
  | not _ i => exact .not i
  | bin a _ _ i j => exact .bin a i j
  | cmp a b c => exact .cmp a (b.mono h) (c.mono h)
/-- what a thread may name -/
structure Gc where
  names : List Str
  locks : List Str
  stores : List Str
  marks : List Str
inductive StmOk (C : Gc) : Stm → Prop where
  | set {x : Str} {e : Ex} : x ∈ C.names → NumOk C.names 1 e → StmOk C (.set x e)
  | wait {e : Ex} : TruOk C.names 1 e → StmOk C (.wait e)
  | pick {x : Str} : x ∈ C.names → StmOk C (.pick x)
  | send {e : Ex} {q : Str} : NumOk C.names 0 e → q ∈ C.stores → StmOk C (.send e q)
  | take {x q : Str} : x ∈ C.names → q ∈ C.stores → StmOk C (.take x q)
  | lock {l : Str} : l ∈ C.locks → StmOk C (.lock l)
  | unlock {l : Str} : l ∈ C.locks → StmOk C (.unlock l)
  | skip : StmOk C .skip
  | stop : StmOk C .stop
  | mark {m : Str} : m ∈ C.marks → StmOk C (.mark m)
  | ite {c : Ex} {a b : List Stm} : TruOk C.names 1 c → (∀ s ∈ a, StmOk C s) → (∀ s ∈ b, StmOk C s) → StmOk C (.ite c a b)
  | wh {c : Ex} {a : List Stm} : TruOk C.names 1 c → (∀ s ∈ a, StmOk C s) → StmOk C (.wh c a)
  | lp {a : List Stm} : (∀ s ∈ a, StmOk C s) → StmOk C (.lp a)
/-! the world of a thread: draws, budget, marks, names -/
structure Wl (C : Gc) (d l w b m nm : Addr) (s : Int) (S : Store) (bv : Int) (ms : List Str) : Prop where
  dr : Dr d l S
  ew : ∃ bx sts, S w = some (.lst [bx, .tup (C.locks.map .str), .tup sts, .ref m, .ref nm, .int s]) ∧ sts.length ≤ 100 ∧ ∀ x ∈ sts, ∃ q r, x = .tup (.str q :: r) ∧ q ∈ C.stores
  eb : S b = some (.lst [.int bv])
  em : S m = some (.lst (ms.map .str))
  enm : S nm = some (.lst (C.names.map .str))
  db : d ≠ b
  lb : l ≠ b
  dm : d ≠ m
  lm : l ≠ m
  bm : b ≠ m
  wd : w ≠ d
  wb : w ≠ b
  wm : w ≠ m
  nd : nm ≠ d
  nb : nm ≠ b
  nn : nm ≠ m
  msub : ∀ x ∈ ms, x ∈ C.marks
  mlen : ms.length ≤ 100
  nlen : C.names.length ≤ 100
  llen : C.locks.length ≤ 100
  nne : C.names ≠ []
section
variable {C : Gc} {d l w b m nm h p : Addr} {s bv : Int} {S S' : Store} {ms hs : List Str} {o : MO}
theorem Wl.le (g : Wl C d l w b m nm s S bv ms) (f : Le S S') : Wl C d l w b m nm s S' bv ms :=
  let ⟨bx, sts, h1, h2⟩ := g.ew
  { g with dr := g.dr.le f, ew := ⟨bx, sts, f _ _ h1, h2⟩, eb := f _ _ g.eb, em := f _ _ g.em, enm := f _ _ g.enm }
theorem Wl.new (g : Wl C d l w b m nm s S bv ms) (n : S p = none) : Wl C d l w b m nm s (us S p o) bv ms := g.le (Le.new n)
theorem Wl.dw (g : Wl C d l w b m nm s S bv ms) (f : Dw d l [d] S S') : Wl C d l w b m nm s S' bv ms :=
  let ⟨bx, sts, h1, h2⟩ := g.ew
  { g with dr := f.dr, ew := ⟨bx, sts, f.at (by simp [g.wd]) h1, h2⟩, eb := f.at (by simp [g.db.symm]) g.eb, em := f.at (by simp [g.dm.symm]) g.em, enm := f.at (by simp [g.nd]) g.enm }
theorem Wl.bud {bv' : Int} (g : Wl C d l w b m nm s S bv ms) : Wl C d l w b m nm s (us S b (.lst [.int bv'])) bv' ms :=
  let ⟨bx, sts, h1, h2⟩ := g.ew
  { g with dr := g.dr.put g.db g.lb, ew := ⟨bx, sts, by rw [us_ne g.wb]; exact h1, h2⟩, eb := us_same, em := by rw [us_ne g.bm.symm]; exact g.em, enm := by rw [us_ne g.nb]; exact g.enm }
theorem Wl.pop {ms' : List Str} (g : Wl C d l w b m nm s S bv ms) (k : ∀ x ∈ ms', x ∈ ms) (kl : ms'.length ≤ ms.length) : Wl C d l w b m nm s (us S m (.lst (ms'.map .str))) bv ms' :=
  let ⟨bx, sts, h1, h2⟩ := g.ew
  { g with dr := g.dr.put g.dm g.lm, ew := ⟨bx, sts, by rw [us_ne g.wm]; exact h1, h2⟩, eb := by rw [us_ne g.bm]; exact g.eb, em := us_same, enm := by rw [us_ne g.nn]; exact g.enm, msub := fun x hx => g.msub x (k x hx), mlen := Nat.le_trans kl g.mlen }
/-- the locks that are held -/
structure Hd (d b m h : Addr) (S : Store) (hs : List Str) : Prop where
  eh : S h = some (.lst (hs.map .str))
  hd : h ≠ d
  hb : h ≠ b
  hm : h ≠ m
theorem Hd.fr (g : Hd d b m h S hs) (f : Fr [d, b, m] S S') : Hd d b m h S' hs := { g with eh := f _ _ (by simp [g.hd, g.hb, g.hm]) g.eh }
/-- what a piece of the generator may leave behind -/
structure Go (C : Gc) (d l w b m nm : Addr) (s : Int) (S : Store) (bv : Int) (ms : List Str) (u e : Int) (ls : List Stm) (S' : Store) : Prop where
  ex : ∃ bv' ms', Wl C d l w b m nm s S' bv' ms' ∧ 0 ≤ bv' ∧ bv' ≤ bv - u ∧ ms'.length ≤ ms.length ∧ (Stm.sizes ls : Int) + bv' + (ms'.length : Int) ≤ bv + (ms.length : Int) + e
  fr : Fr [d, b, m] S S'
  ok : ∀ x ∈ ls, StmOk C x
theorem Dw.d3 (f : Dw d l [d] S S') : Fr [d, b, m] S S' := f.fr.mono (by simp)
theorem perm_strs : ∀ {ys : List A} {ns : List Str}, ys.Perm (ns.map .str) → ∃ zs : List Str, ys = zs.map .str ∧ zs.Perm ns := by
  intro ys ns h
  have key : ∀ ys : List A, (∀ y ∈ ys, ∃ z, y = .str z) → ∃ zs : List Str, ys = zs.map .str := by
    intro ys
    induction ys with
    | nil => exact fun _ => ⟨[], rfl⟩
    | cons y ys ih =>
      intro h
      obtain ⟨z, rfl⟩ := h y (by simp)
      obtain ⟨zs, rfl⟩ := ih fun y hy => h y (by simp [hy])
      exact ⟨z :: zs, rfl⟩
  obtain ⟨zs, rfl⟩ := key ys fun y hy => by
    obtain ⟨z, _, e⟩ := List.mem_map.mp (h.mem_iff.mp hy)
    exact ⟨z, e.symm⟩
  refine ⟨zs, rfl, ?_⟩
  have h2 := h.map fun x => match x with | .str z => z | _ => Str.ofString ""
  rw [List.map_map, List.map_map] at h2
  simpa [Function.comp_def] using h2
end
theorem flat_strs (xs : List Str) : (xs.map A.str).all flatA = true := by simp [flatA]
theorem filter_strs (p : A → Bool) (xs : List Str) : ∃ ys : List Str, ((xs.map A.str).filter p).map (fun x => x) = ys.map .str ∧ (∀ y ∈ ys, y ∈ xs) ∧ ys.length ≤ xs.length := by
  refine ⟨xs.filter fun y => p (.str y), ?_, fun y hy => (List.mem_filter.mp hy).1, List.length_filter_le _ _⟩
  rw [List.filter_map]
  simp [Function.comp_def]
theorem cut_str2 (xs : List Str) : cut (xs.map A.str) none (some 2) = (xs.take 2).map A.str := by
  rw [show (2 : Int) = ((2 : Nat) : Int) from rfl, cut_to, List.map_take]
section
variable {C : Gc} {d l w b m nm h : Addr} {s bv bv' u u' e e' : Int} {S S' : Store} {ms ms' hs : List Str} {ls : List Stm}
/-- seen from further back -/
theorem Go.back {S0 : Store} {bv0 : Int} {ms0 : List Str} (g : Go C d l w b m nm s S bv ms u e ls S') (f : Fr [d, b, m] S0 S) (h1 : bv - u ≤ bv0 - u') (h2 : ms.length ≤ ms0.length) (h3 : bv + (ms.length : Int) + e ≤ bv0 + (ms0.length : Int) + e') : Go C d l w b m nm s S0 bv0 ms0 u' e' ls S' := by
  obtain ⟨x, y, k1, k2, k3, k4, k5⟩ := g.ex
  exact ⟨⟨x, y, k1, k2, by omega, by omega, by omega⟩, f.trans g.fr, g.ok⟩
theorem Go.len (g : Go C d l w b m nm s S bv ms u e ls S') (h : Wl C d l w b m nm s S bv ms) : (ls.length : Int) ≤ bv + 100 + e := by
  obtain ⟨x, y, k1, k2, k3, k4, k5⟩ := g.ex
  have h1 := length_sizes ls
  have h2 := h.mlen
  omega
end
/-! threads, programs -/
/-- a box, a local: name, least, greatest, first -/
structure VarR where
  name : Str
  lo : Int
  hi : Int
  st : Int
def VarR.enc (v : VarR) : A := .tup [.str v.name, .int v.lo, .int v.hi, .int v.st]
def VarR.ok (v : VarR) : Prop := 0 ≤ v.lo ∧ v.lo ≤ 1 ∧ v.lo < v.hi ∧ v.hi ≤ v.lo + 2 ∧ v.lo ≤ v.st ∧ v.st ≤ v.hi
def mk3 : List Str := [Str.ofString "in1", Str.ofString "out", Str.ofString "here"]
structure ThrOk (kinds : Str) (bx : List VarR) (lk sn : List Str) (steps : Int) (t : Thr) : Prop where
  copies : t.copies = .int 1 ∨ (t.copies = .int 2 ∧ strIn (Str.ofString "c") kinds = true) ∨ (t.copies = .non ∧ strIn (Str.ofString "o") kinds = true)
  ex : ∃ pv : List VarR, t.privs = pv.map VarR.enc ∧ pv.length ≤ 1 ∧ (∀ v ∈ pv, v.lo = 0 ∧ v.hi = 1 ∧ VarR.ok v) ∧ (pv ≠ [] → strIn (Str.ofString "v") kinds = true) ∧
    ∀ x ∈ t.body, StmOk ⟨(bx ++ pv).map VarR.name, lk, sn, mk3⟩ x
  size : (Stm.sizes t.body : Int) ≤ steps + 6
/-- the first of a row -/
def headA : A → A
  | .tup (x :: _) => x
  | _ => .non
theorem enc_heads (vs : List VarR) : (vs.map VarR.enc).map headA = (vs.map VarR.name).map .str := by
  rw [List.map_map, List.map_map]
  rfl
theorem Fr.drop {d b m : Addr} {S S1 S' : Store} (f : Fr [d, b, m] S1 S') (f0 : Fr [d] S S1) (hb : S b = none) (hm : S m = none) : Fr [d] S S' := fun p o hp e => by
  have h1 := sne e hb
  have h2 := sne e hm
  exact f p o (by simp at hp; simp [hp, h1, h2]) (f0 p o hp e)
structure BagR where
  name : Str
  hi : Int
  cap : A
def BagR.enc (v : BagR) : A := .tup [.str v.name, .int 0, .int v.hi, v.cap]
structure PrgOk (kinds : Str) (mt steps : Int) (p : Prog) : Prop where
  ex : ∃ (bx qs : List VarR) (bs : List BagR) (lk : List Str), p.boxes = bx.map VarR.enc ∧ p.locks = lk.map .str ∧ p.queues = qs.map VarR.enc ∧ p.bags = bs.map BagR.enc ∧ 1 ≤ bx.length ∧ bx.length ≤ 2 ∧ lk.length ≤ 1 ∧ qs.length ≤ 1 ∧ bs.length ≤ 1 ∧
    (∀ v ∈ bx, VarR.ok v) ∧ (∀ v ∈ qs, v.lo = 0 ∧ v.hi = 1 ∧ 1 ≤ v.st ∧ v.st ≤ 2) ∧ (∀ v ∈ bs, 0 ≤ v.hi ∧ v.hi ≤ 1 ∧ (v.cap = .int 1 ∨ (v.cap = .int 2 ∨ v.cap = .non) ∧ strIn (Str.ofString "o") kinds = true)) ∧
    1 ≤ p.threads.length ∧ (p.threads.length : Int) ≤ mt ∧ ∀ t ∈ p.threads, ThrOk kinds bx lk (qs.map VarR.name ++ bs.map BagR.name) steps t
/-- at least k names are left -/
structure Nm (d l p : Addr) (S : Store) (k : Nat) : Prop where
  dr : Dr d l S
  ex : ∃ rest : List Str, S p = some (.lst (rest.map .str)) ∧ k ≤ rest.length ∧ rest.length ≤ 1000
  dp : d ≠ p
  lp : l ≠ p
section
variable {d l p : Addr} {S S' : Store} {k : Nat}
theorem Nm.dw (g : Nm d l p S k) (f : Dw d l [d] S S') : Nm d l p S' k :=
  let ⟨rest, h1, h2⟩ := g.ex
  { g with dr := f.dr, ex := ⟨rest, f.at (by simp [g.dp.symm]) h1, h2⟩ }
/-- one is taken -/
theorem Nm.pop (g : Nm d l p S (k + 1)) : ∃ (rest : List Str) (z : Str), S p = some (.lst (rest.map .str)) ∧ (rest.map A.str)[rest.length - 1]? = some (.str z) ∧ Nm d l p (us S p (.lst (rest.map A.str).dropLast)) k := by
  obtain ⟨rest, h1, h2, h3⟩ := g.ex
  obtain ⟨z, hz⟩ := get_of_lt (l := rest) (j := rest.length - 1) (by omega)
  refine ⟨rest, z, h1, by rw [List.getElem?_map, hz]; rfl, { dr := g.dr.put g.dp g.lp, ex := ⟨rest.dropLast, ?_, by rw [List.length_dropLast]; omega, by rw [List.length_dropLast]; omega⟩, dp := g.dp, lp := g.lp }⟩
  rw [us_same, List.map_dropLast]
end
theorem Nm.weak {d l p : Addr} {S : Store} {k j : Nat} (g : Nm d l p S k) (h : j ≤ k) : Nm d l p S j :=
  let ⟨rest, h1, h2, h3⟩ := g.ex
  { g with ex := ⟨rest, h1, Nat.le_trans h h2, h3⟩ }
theorem Fr.drop1 {d p : Addr} {S S' : Store} (f : Fr [d, p] S S') (h : S p = none) : Fr [d] S S' := fun q o hq e => by
  have h1 := sne e h
  exact f q o (by simp at hq; simp [hq, h1]) e
section
variable {te : ATE} {env0 : Env'} {S : Store} {J : AIt} {Qd : Store → Prop} {D : Addr}
theorem lc_mapG {β : Type} {k : Nat} {ys : List β} {g f : β → A} (hJ : ∀ i S', Le S S' → J i S' = some (ys.map g)[i]?) (hz : ys.length ≤ 16777216) (hD : S D = none) (he : ∀ y S' (Qx : AK), y ∈ ys → Le S S' → Qx (f y) S' → te (env0.set k (some (g y))) S' Qx) (q : Qd (us S D (.lst (ys.map f)))) :
    LcLoop (agName k) aYes te D Qd J env0 S := by
  refine lc_by (ys.map g) (fun i S' => S' = us S D (.lst ((ys.take i).map f))) rfl (fun i S' _ e => hJ i S' (by rw [e]; exact Le.new hD)) (fun i x S' hx e => ?_) (fun S' e => by rw [e, List.length_map, List.take_of_length_le (Nat.le_refl _)]; exact q)
  subst e
  obtain ⟨y, hy, rfl⟩ := map_get hx
  show te (env0.set k (some (g y))) (us S D (.lst ((ys.take i).map f))) _
  have hi := (List.getElem?_eq_some_iff.mp hy).1
  refine he y _ _ (List.mem_of_getElem? hy) (Le.new hD) ⟨_, us_same, ?_, ?_⟩
  · rw [List.length_map, List.length_take, sizeLine_eq]; omega
  · rw [us_us, take_snoc hy, List.map_append]; rfl
theorem lc_mapLG {β : Type} {k : Nat} {a : Addr} {ys : List β} {g f : β → A} (ha : S a = some (.lst (ys.map g))) (hz : ys.length ≤ 16777216) (hD : S D = none) (he : ∀ y S' (Qx : AK), y ∈ ys → Le S S' → Qx (f y) S' → te (env0.set k (some (g y))) S' Qx) (q : Qd (us S D (.lst (ys.map f)))) :
    LcLoop (agName k) aYes te D Qd (itL a) env0 S := lc_mapG (fun i S' l => by unfold itL; rw [l a _ ha]) hz hD he q
end
end WA

set_option Elab.async false
set_option maxRecDepth 100000
set_option maxHeartbeats 2000000
set_option linter.all false
namespace WA
open PySem L2

/-! data of a bounded depth, no references within -/
mutual
def A.fit : A → Nat → Bool
  | .tup _, 0 => false
  | .tup l, n + 1 => A.fits l n
  | .fl _, 0 => false
  | .fl l, n + 1 => A.fits l n
  | .ref _, _ => false
  | .non, _ => true
  | .bl _, _ => true
  | .int _, _ => true
  | .str _, _ => true
def A.fits : List A → Nat → Bool
  | [], _ => true
  | x :: l, n => A.fit x n && A.fits l n
end
mutual
theorem fit_dat : ∀ (x : A) (n : Nat), A.fit x n = true → ∃ d, A.dat x = some d ∧ d.depth ≤ n
  | .tup l, 0, h => by simp [A.fit] at h
  | .tup l, n + 1, h => by
    obtain ⟨ds, h1, h2⟩ := fits_dats l n (by simpa [A.fit] using h)
    exact ⟨.tuple ds, by rw [A.dat, h1]; rfl, by rw [PyData.depth]; omega⟩
  | .fl l, 0, h => by simp [A.fit] at h
  | .fl l, n + 1, h => by
    obtain ⟨ds, h1, h2⟩ := fits_dats l n (by simpa [A.fit] using h)
    exact ⟨.list ds, by rw [A.dat, h1]; rfl, by rw [PyData.depth]; omega⟩
  | .ref _, _, h => by simp [A.fit] at h
  | .non, _, _ => ⟨.none, rfl, by simp [PyData.depth]⟩
  | .bl b, _, _ => ⟨.bool b, rfl, by simp [PyData.depth]⟩
  | .int b, _, _ => ⟨.int b, rfl, by simp [PyData.depth]⟩
  | .str b, _, _ => ⟨.str b, rfl, by simp [PyData.depth]⟩
theorem fits_dats : ∀ (l : List A) (n : Nat), A.fits l n = true → ∃ ds, A.dats l = some ds ∧ PyData.depthAll ds ≤ n
  | [], _, _ => ⟨[], rfl, by simp [PyData.depthAll]⟩
  | x :: l, n, h => by
    have h : A.fit x n = true ∧ A.fits l n = true := by simpa [A.fits] using h
    obtain ⟨d, h1, h2⟩ := fit_dat x n h.1
    obtain ⟨ds, h3, h4⟩ := fits_dats l n h.2
    exact ⟨d :: ds, by rw [A.dats, h1, h3], by rw [PyData.depthAll]; omega⟩
end
theorem fits_all : ∀ {l : List A} {n : Nat}, (∀ x ∈ l, A.fit x n = true) → A.fits l n = true
  | [], _, _ => rfl
  | x :: l, n, h => by rw [A.fits, h x (by simp), fits_all fun y hy => h y (by simp [hy])]; rfl
theorem fits_mem : ∀ {l : List A} {n : Nat}, A.fits l n = true → ∀ x ∈ l, A.fit x n = true
  | x :: l, n, h, y, hy => by
    have h : A.fit x n = true ∧ A.fits l n = true := by simpa [A.fits] using h
    rcases List.mem_cons.mp hy with rfl | hy
    · exact h.1
    · exact fits_mem h.2 y hy
theorem fit_tup {l : List A} {n : Nat} (h : ∀ x ∈ l, A.fit x n = true) : A.fit (.tup l) (n + 1) = true := by rw [A.fit]; exact fits_all h
mutual
theorem fit_mono : ∀ (x : A) (n m : Nat), n ≤ m → A.fit x n = true → A.fit x m = true
  | .tup l, 0, _, _, h => by simp [A.fit] at h
  | .tup l, n + 1, 0, hm, _ => by omega
  | .tup l, n + 1, m + 1, hm, h => by rw [A.fit] at h ⊢; exact fits_mono l n m (by omega) h
  | .fl l, 0, _, _, h => by simp [A.fit] at h
  | .fl l, n + 1, 0, hm, _ => by omega
  | .fl l, n + 1, m + 1, hm, h => by rw [A.fit] at h ⊢; exact fits_mono l n m (by omega) h
  | .ref _, _, _, _, h => by simp [A.fit] at h
  | .non, _, _, _, _ => by simp [A.fit]
  | .bl _, _, _, _, _ => by simp [A.fit]
  | .int _, _, _, _, _ => by simp [A.fit]
  | .str _, _, _, _, _ => by simp [A.fit]
theorem fits_mono : ∀ (l : List A) (n m : Nat), n ≤ m → A.fits l n = true → A.fits l m = true
  | [], _, _, _, _ => rfl
  | x :: l, n, m, hm, h => by
    have h : A.fit x n = true ∧ A.fits l n = true := by simpa [A.fits] using h
    rw [A.fits, fit_mono x n m hm h.1, fits_mono l n m hm h.2]; rfl
end
/-- two lists of one and the same data -/
theorem eq_same {S : Store} {a b : Addr} {l : List A} {n : Nat} {neg : Bool} {Q : AK} (ha : S a = some (.lst l)) (hb : S b = some (.lst l)) (hl : A.fits l n = true) (hn : n < 64) (q : Q (.bl (!neg)) S) : eqGen neg (.ref a) (.ref b) S Q := by
  obtain ⟨ds, h1, h2⟩ := fits_dats l n hl
  have e1 : datS S (.ref a) = some (.list ds) := by
    show (match S a with | some (.lst l) => (A.dats l).map PyData.list | _ => none) = _
    rw [ha]
    show (A.dats l).map PyData.list = _
    rw [h1]; rfl
  have e2 : datS S (.ref b) = some (.list ds) := by
    show (match S b with | some (.lst l) => (A.dats l).map PyData.list | _ => none) = _
    rw [hb]
    show (A.dats l).map PyData.list = _
    rw [h1]; rfl
  have e3 : PyData.eqv (.list ds) (.list ds) = true := SeqAt.eqv_refl_plain _ (datS_plain e1)
  refine ⟨_, _, e1, e2, by rw [PyData.depth]; omega, ?_⟩
  rw [e3]
  cases neg <;> exact q
/-! what the generator makes fits -/
theorem num_fit {ns : List Str} {d : Nat} {e : Ex} (h : NumOk ns d e) : A.fit e.enc (d + 1) = true := by
  induction h with
  | num _ _ => simp [Ex.enc, A.fit, A.fits]
  | name _ => simp [Ex.enc, A.fit, A.fits]
  | bin _ _ _ i j => simp [Ex.enc, A.fit, A.fits, i, j]
theorem tru_fit {ns : List Str} {d : Nat} {e : Ex} (h : TruOk ns d e) : A.fit e.enc (d + 3) = true := by
  induction h with
  | not _ i => simp [Ex.enc, A.fit, A.fits, i]
  | bin _ _ _ i j => simp [Ex.enc, A.fit, A.fits, i, j]
  | @cmp d op l r _ i j =>
    have h1 := fit_mono _ 2 (d + 2) (by omega) (num_fit i)
    have h2 := fit_mono _ 1 (d + 2) (by omega) (num_fit j)
    simp [Ex.enc, A.fit, A.fits, h1, h2]
mutual
theorem stm_fit {C : Gc} : ∀ (s : Stm), StmOk C s → A.fit s.enc (2 * s.size + 3) = true
  | .set x e, h => by cases h with | set _ h2 => have := fit_mono _ 2 4 (by omega) (num_fit h2); simp [Stm.enc, A.fit, A.fits, Stm.size, this]
  | .wait e, h => by cases h with | wait h2 => have := tru_fit h2; simp [Stm.enc, A.fit, A.fits, Stm.size, this]
  | .pick _, _ => by simp [Stm.enc, A.fit, A.fits, Stm.size]
  | .send e _, h => by cases h with | send h2 _ => have := fit_mono _ 1 4 (by omega) (num_fit h2); simp [Stm.enc, A.fit, A.fits, Stm.size, this]
  | .take _ _, _ => by simp [Stm.enc, A.fit, A.fits, Stm.size]
  | .lock _, _ => by simp [Stm.enc, A.fit, A.fits, Stm.size]
  | .unlock _, _ => by simp [Stm.enc, A.fit, A.fits, Stm.size]
  | .skip, _ => by simp [Stm.enc, A.fit, A.fits, Stm.size]
  | .stop, _ => by simp [Stm.enc, A.fit, A.fits, Stm.size]
  | .mark _, _ => by simp [Stm.enc, A.fit, A.fits, Stm.size]
  | .ite c a b, h => by
    cases h with
    | ite h1 h2 h3 =>
      have e1 := fit_mono _ 4 (2 * (1 + Stm.sizes a + Stm.sizes b) + 2) (by omega) (tru_fit h1)
      have e2 := fits_mono _ _ (2 * (1 + Stm.sizes a + Stm.sizes b) + 1) (by omega) (stms_fit a h2)
      have e3 := fits_mono _ _ (2 * (1 + Stm.sizes a + Stm.sizes b) + 1) (by omega) (stms_fit b h3)
      simp only [Stm.enc, Stm.size]
      rw [A.fit]
      simp [A.fits, A.fit, e1, e2, e3]
  | .wh c a, h => by
    cases h with
    | wh h1 h2 =>
      have e1 := fit_mono _ 4 (2 * (1 + Stm.sizes a) + 2) (by omega) (tru_fit h1)
      have e2 := fits_mono _ _ (2 * (1 + Stm.sizes a) + 1) (by omega) (stms_fit a h2)
      simp only [Stm.enc, Stm.size]
      rw [A.fit]
      simp [A.fits, A.fit, e1, e2]
  | .lp a, h => by
    cases h with
    | lp h2 =>
      have e2 := fits_mono _ _ (2 * (1 + Stm.sizes a) + 1) (by omega) (stms_fit a h2)
      simp only [Stm.enc, Stm.size]
      rw [A.fit]
      simp [A.fits, A.fit, e2]
theorem stms_fit {C : Gc} : ∀ (l : List Stm), (∀ s ∈ l, StmOk C s) → A.fits (Stm.encs l) (2 * Stm.sizes l + 3) = true
  | [], _ => rfl
  | s :: l, h => by
    have e1 := fit_mono _ _ (2 * (s.size + Stm.sizes l) + 3) (by omega) (stm_fit s (h s (by simp)))
    have e2 := fits_mono _ _ (2 * (s.size + Stm.sizes l) + 3) (by omega) (stms_fit l fun x hx => h x (by simp [hx]))
    rw [Stm.encs, A.fits, Stm.sizes, e1, e2]; rfl
end
end WA
namespace WA
open PySem L2
/-! the cuts of what fits fit -/
theorem fits_append {l m : List A} {n : Nat} : A.fits (l ++ m) n = (A.fits l n && A.fits m n) := by
  induction l with
  | nil => simp [A.fits]
  | cons x l ih => rw [List.cons_append, A.fits, A.fits, ih, Bool.and_assoc]
theorem fits_take {l : List A} {n i : Nat} (h : A.fits l n = true) : A.fits (l.take i) n = true := fits_all fun x hx => fits_mem h x (List.mem_of_mem_take hx)
theorem fits_drop {l : List A} {n i : Nat} (h : A.fits l n = true) : A.fits (l.drop i) n = true := fits_all fun x hx => fits_mem h x (List.mem_of_mem_drop hx)
theorem fits_out {l : List A} {n i : Nat} (h : A.fits l n = true) : A.fits (outAt l i) n = true := by
  unfold outAt
  rw [fits_append, fits_take h, fits_drop h]; rfl
theorem fits_put {l : List A} {x : A} {n i : Nat} (h : A.fits l n = true) (k : A.fit x n = true) : A.fits (putAt l i x) n = true := by
  unfold putAt
  rw [fits_append, fits_append, fits_take h, fits_drop h, A.fits, k]; rfl
abbrev BF (k : Nat) (l : List Stm) : Prop := A.fits (Stm.encs l) k = true
theorem BF.repl {k : Nat} {body x : List Stm} {i : Nat} (h : BF k body) (hx : BF k x) : BF k (replAt body i x) := by
  unfold replAt BF
  rw [encs_append, encs_append, encs_take, encs_drop, fits_append, fits_append, fits_take h, fits_drop h, hx]; rfl
theorem body_fit {s : Stm} {k : Nat} (h : A.fit s.enc k = true) {b : List Stm} (hb : b ∈ s.bodies) : ∃ j, k = j + 2 ∧ BF j b := by
  have two : ∀ {l : List A} {k : Nat} {b : List Stm}, A.fit (.tup l) k = true → A.tup (Stm.encs b) ∈ l → ∃ j, k = j + 2 ∧ BF j b := fun {l k b} h hm => by
    cases k with
    | zero => simp [A.fit] at h
    | succ k =>
      rw [A.fit] at h
      have h2 := fits_mem h _ hm
      cases k with
      | zero => simp [A.fit] at h2
      | succ k =>
        rw [A.fit] at h2
        exact ⟨k, rfl, h2⟩
  cases s with
  | ite c x y =>
    simp only [Stm.bodies, List.mem_cons, List.not_mem_nil, or_false] at hb
    simp only [Stm.enc] at h
    rcases hb with rfl | rfl
    · exact two h (by simp)
    · exact two h (by simp)
  | wh c x =>
    simp only [Stm.bodies, List.mem_cons, List.not_mem_nil, or_false] at hb
    simp only [Stm.enc] at h
    subst hb
    exact two h (by simp)
  | lp x =>
    simp only [Stm.bodies, List.mem_cons, List.not_mem_nil, or_false] at hb
    simp only [Stm.enc] at h
    subst hb
    exact two h (by simp)
  | _ => simp [Stm.bodies] at hb
theorem with_fit {s : Stm} {j : Nat} (h : A.fit s.enc (j + 2) = true) {x : List Stm} (hx : BF j x) (i : Nat) : A.fit (s.withBody i x).enc (j + 2) = true := by
  have hx2 : A.fit (.tup (Stm.encs x)) (j + 1) = true := by rw [A.fit]; exact hx
  cases s with
  | ite c a b =>
    simp only [Stm.enc] at h
    rw [A.fit] at h
    simp only [A.fits, Bool.and_eq_true] at h
    simp only [Stm.withBody]
    split
    · simp only [Stm.enc]
      rw [A.fit]
      simp only [A.fits, Bool.and_eq_true]
      exact ⟨h.1, h.2.1, hx2, h.2.2.2.1, trivial⟩
    · simp only [Stm.enc]
      rw [A.fit]
      simp only [A.fits, Bool.and_eq_true]
      exact ⟨h.1, h.2.1, h.2.2.1, hx2, trivial⟩
  | wh c a =>
    simp only [Stm.enc] at h
    rw [A.fit] at h
    simp only [A.fits, Bool.and_eq_true] at h
    simp only [Stm.withBody, Stm.enc]
    rw [A.fit]
    simp only [A.fits, Bool.and_eq_true]
    exact ⟨h.1, h.2.1, hx2, trivial⟩
  | lp a =>
    simp only [Stm.withBody, Stm.enc]
    rw [A.fit]
    simp only [A.fits, Bool.and_eq_true]
    exact ⟨by simp [A.fit], hx2, trivial⟩
  | _ => exact h
theorem within_fit {ch : List Stm → List (List Stm)} {k i : Nat} {body : List Stm} {s : Stm} (hb : BF k body) (hs : s ∈ body) (hc : ∀ j b, b ∈ s.bodies → BF j b → ∀ x ∈ ch b, BF j x) : ∀ y ∈ withinM ch body i s, BF k y := by
  intro y hy
  unfold withinM at hy
  obtain ⟨z, hz, hy⟩ := List.mem_flatMap.mp hy
  obtain ⟨x, hx, rfl⟩ := List.mem_map.mp hy
  have hzb : z.1 ∈ s.bodies := by
    have := List.mem_map_of_mem (f := Prod.fst) hz
    rwa [List.zipIdx_map_fst] at this
  have hse : A.fit s.enc k = true := fits_mem hb _ (by rw [encs_map]; exact List.mem_map_of_mem hs)
  obtain ⟨j, rfl, hj⟩ := body_fit hse hzb
  have hxj := hc j z.1 hzb hj x hx
  refine hb.repl ?_
  show A.fits (Stm.encs [s.withBody z.2 x]) (j + 2) = true
  rw [Stm.encs, A.fits, with_fit hse hxj]; rfl
theorem mem_zip {α : Type} {l : List α} {z : α × Nat} (h : z ∈ l.zipIdx) : z.1 ∈ l := by
  have := List.mem_map_of_mem (f := Prod.fst) h
  rwa [List.zipIdx_map_fst] at this
theorem rem_fit : ∀ (n k : Nat) (body : List Stm), BF k body → ∀ y ∈ remM n body, BF k y
  | 0, _, _, _, y, hy => by simp [remM] at hy
  | n + 1, k, body, h, y, hy => by
    unfold remM at hy
    obtain ⟨z, hz, hy⟩ := List.mem_flatMap.mp hy
    rcases List.mem_cons.mp hy with rfl | hy
    · exact h.repl rfl
    · exact within_fit h (mem_zip hz) (fun j b hb hj x hx => rem_fit n j b hj x hx) y hy
theorem hoi_fit : ∀ (n k : Nat) (body : List Stm), BF k body → ∀ y ∈ hoiM n body, BF k y
  | 0, _, _, _, y, hy => by simp [hoiM] at hy
  | n + 1, k, body, h, y, hy => by
    unfold hoiM at hy
    obtain ⟨z, hz, hy⟩ := List.mem_flatMap.mp hy
    rcases List.mem_append.mp hy with hy | hy
    · obtain ⟨b, hb, rfl⟩ := List.mem_map.mp hy
      have hse : A.fit z.1.enc k = true := fits_mem h _ (by rw [encs_map]; exact List.mem_map_of_mem (mem_zip hz))
      obtain ⟨j, rfl, hj⟩ := body_fit hse hb
      exact h.repl (fits_mono _ j (j + 2) (by omega) hj)
    · exact within_fit h (mem_zip hz) (fun j b hb hj x hx => hoi_fit n j b hj x hx) y hy
/-- a program whose parts fit -/
structure PF (k : Nat) (p : Prog) : Prop where
  boxes : A.fits p.boxes k = true
  locks : A.fits p.locks k = true
  queues : A.fits p.queues k = true
  bags : A.fits p.bags k = true
  thr : ∀ t ∈ p.threads, A.fit t.enc (k + 2) = true
theorem PF.enc {k : Nat} {p : Prog} (h : PF k p) : A.fit p.enc (k + 4) = true := by
  have m : ∀ {l : List A}, A.fits l k = true → A.fit (.tup l) (k + 3) = true := fun h => by rw [A.fit]; exact fits_mono _ k (k + 2) (by omega) h
  have mt : A.fit (.tup (p.threads.map Thr.enc)) (k + 3) = true := by
    rw [A.fit]
    refine fits_all fun x hx => ?_
    obtain ⟨t, ht, rfl⟩ := List.mem_map.mp hx
    exact h.thr t ht
  unfold Prog.enc
  have mn : A.fit (.str p.name) (k + 3) = true := by simp [A.fit]
  rw [A.fit]
  simp only [A.fits, m h.boxes, m h.locks, m h.queues, m h.bags, mt, mn]
  rfl
theorem mem_out {α : Type} {l : List α} {i : Nat} {x : α} (h : x ∈ outAt l i) : x ∈ l := by
  unfold outAt at h
  rcases List.mem_append.mp h with h | h
  · exact List.mem_of_mem_take h
  · exact List.mem_of_mem_drop h
theorem mem_put {α : Type} {l : List α} {i : Nat} {x y : α} (h : x ∈ putAt l i y) : x ∈ l ∨ x = y := by
  unfold putAt at h
  rcases List.mem_append.mp h with h | h
  · rcases List.mem_append.mp h with h | h
    · exact .inl (List.mem_of_mem_take h)
    · exact .inr (List.mem_singleton.mp h)
  · exact .inl (List.mem_of_mem_drop h)
theorem thr_fit {t : Thr} {k : Nat} : A.fit t.enc (k + 2) = true ↔ A.fit t.copies (k + 1) = true ∧ A.fits t.privs k = true ∧ BF k t.body := by
  unfold Thr.enc
  rw [A.fit]
  simp only [A.fits, Bool.and_eq_true, and_true]
  rw [show A.fit (.str t.name) (k + 1) = true from by simp [A.fit]]
  simp [A.fit]
theorem cuts_fit {k n : Nat} {p : Prog} (h : PF k p) : ∀ x ∈ cutsM n p, PF k x := by
  intro x hx
  unfold cutsM at hx
  have thr : ∀ ch : List Stm → List (List Stm), (∀ body, BF k body → ∀ y ∈ ch body, BF k y) → x ∈ p.threads.zipIdx.flatMap (thrM ch p) → PF k x := fun ch hc hx => by
    obtain ⟨z, hz, hx⟩ := List.mem_flatMap.mp hx
    obtain ⟨b, hb, rfl⟩ := List.mem_map.mp hx
    refine { h with thr := fun t ht => ?_ }
    rcases mem_put ht with ht | rfl
    · exact h.thr t ht
    · have h0 := thr_fit.mp (h.thr z.1 (mem_zip hz))
      exact thr_fit.mpr ⟨h0.1, h0.2.1, hc _ h0.2.2 b hb⟩
  simp only [List.mem_append] at hx
  rcases hx with ((((((hx | hx) | hx) | hx) | hx) | hx) | hx) | hx
  · split at hx
    · obtain ⟨z, hz, rfl⟩ := List.mem_map.mp hx
      exact { h with thr := fun t ht => h.thr t (mem_out ht) }
    · cases hx
  · exact thr _ (fun body hb => rem_fit n k body hb) hx
  · exact thr _ (fun body hb => hoi_fit n k body hb) hx
  · obtain ⟨z, hz, rfl⟩ := List.mem_map.mp hx
    exact { h with boxes := fits_out h.boxes }
  · obtain ⟨z, hz, rfl⟩ := List.mem_map.mp hx
    exact { h with locks := fits_out h.locks }
  · obtain ⟨z, hz, rfl⟩ := List.mem_map.mp hx
    exact { h with queues := fits_out h.queues }
  · obtain ⟨z, hz, rfl⟩ := List.mem_map.mp hx
    exact { h with bags := fits_out h.bags }
  · obtain ⟨z, hz, hx⟩ := List.mem_flatMap.mp hx
    obtain ⟨y, hy, rfl⟩ := List.mem_map.mp hx
    refine { h with thr := fun t ht => ?_ }
    rcases mem_put ht with ht | rfl
    · exact h.thr t ht
    · have h0 := thr_fit.mp (h.thr z.1 (mem_zip hz))
      exact thr_fit.mpr ⟨h0.1, fits_out h0.2.1, h0.2.2⟩
theorem var_fit (v : VarR) : A.fit v.enc 1 = true := by simp [VarR.enc, A.fit, A.fits]
theorem vars_fit (vs : List VarR) (k : Nat) (hk : 1 ≤ k) : A.fits (vs.map VarR.enc) k = true := fits_all fun x hx => by
  obtain ⟨v, _, rfl⟩ := List.mem_map.mp hx
  exact fit_mono _ 1 k hk (var_fit v)
/-- what the generator makes, fits -/
theorem prg_fit {kinds : Str} {mt steps : Int} {p : Prog} (h : PrgOk kinds mt steps p) (hs : steps ≤ 10) : PF 36 p := by
  obtain ⟨bx, qs, bs, lk, e1, e2, e3, e4, _, _, _, _, _, _, _, hb, _, _, ht⟩ := h.ex
  have f2 : A.fits (lk.map A.str) 36 = true := fits_all fun x hx => by
    obtain ⟨y, _, rfl⟩ := List.mem_map.mp hx
    simp [A.fit]
  have f4 : A.fits (bs.map BagR.enc) 36 = true := fits_all fun x hx => by
    obtain ⟨v, hv, rfl⟩ := List.mem_map.mp hx
    have hc : A.fit v.cap 35 = true := by
      rcases (hb v hv).2.2 with e | ⟨e | e, _⟩ <;> rw [e] <;> simp [A.fit]
    simp [BagR.enc, A.fit, A.fits, hc]
  refine ⟨by rw [e1]; exact vars_fit _ _ (by omega), by rw [e2]; exact f2, by rw [e3]; exact vars_fit _ _ (by omega), by rw [e4]; exact f4, fun t htm => ?_⟩
  have ho := ht t htm
  obtain ⟨pv, e5, _, _, _, hbody⟩ := ho.ex
  have hsz := ho.size
  refine thr_fit.mpr ⟨?_, by rw [e5]; exact vars_fit _ _ (by omega), fits_mono _ _ _ (by omega) (stms_fit _ hbody)⟩
  rcases ho.copies with e | ⟨e, _⟩ | ⟨e, _⟩ <;> rw [e] <;> simp [A.fit]
end WA

set_option Elab.async false
set_option maxRecDepth 100000
set_option maxHeartbeats 8000000
set_option linter.all false
local macro_rules | `(tactic| walk_at "wa") => `(tactic| (simp only [WA.startA, WA.aSeq, WA.aCut, WA.aIfS, WA.aSet, WA.aDrop, WA.aRet, WA.aRetN, WA.aSkip, WA.aBreak, WA.aCont, WA.aAsg, WA.aTest, WA.aOp, WA.aVar, WA.aC, WA.aIsN, WA.aNotN, WA.A.isN, WA.aAnd, WA.aOr, WA.aNot, WA.aAndV, WA.aOrV, WA.aNotV, WA.aIf, WA.aNil, WA.aCons, WA.aTup, WA.aLst, WA.aUn, WA.aNeg, WA.aI0, WA.aI, WA.aAdd, WA.aSub, WA.aMul, WA.aFdiv, WA.aMod, WA.aPow, WA.aShl, WA.aShr, WA.aBand, WA.aBor, WA.aLt, WA.aLe, WA.aGt, WA.aGe, WA.aEq, WA.aNe, WA.aIx, WA.ixSeq, WA.ixAt, WA.aSl, WA.aSlice, WA.aNoPart, WA.aPart, WA.aCB, WA.aLen, WA.aList, WA.aTuple, WA.aInt, WA.aMeth, WA.isLst, WA.aAppend, WA.aExtend, WA.aPop, WA.aCall, WA.aCallV, WA.agName, WA.agTup, WA.agCons, WA.agNil, WA.agSub, WA.seqOf, WA.aFor, WA.aiSeq, WA.aiEnum, WA.aiRng1, WA.aiRng2, WA.itOf, WA.aLc, WA.aYes, WA.wipeA, WA.atI_0, WA.atI_1, WA.atI_2, WA.atI_3, WA.atI_4, WA.atI_5, WA.str_inj, WA.str_beq, WA.aIn, WA.flatA, WA.eqA, WA.atI_m1_1, WA.atI_m1_2, WA.atI_m1_3, WA.atI_m1_4, WA.cut_m1_2, WA.cut_m1_3, List.all_cons, List.all_nil, List.any_cons, List.any_nil, Bool.and_self, Bool.or_self, Bool.or_true, Bool.true_or, Bool.or_false, Bool.false_or, Bool.and_true, Bool.true_and, Bool.and_false, Bool.false_and, String.reduceBEq,  WA.us_same,
  List.getElem?_cons_zero, List.getElem?_cons_succ, List.set_cons_zero, List.set_cons_succ, List.length_cons, List.length_nil, List.map_cons, List.map_nil, List.cons_append, List.nil_append, List.append_nil, List.replicate_zero, List.replicate_succ, List.reduceReplicate, Nat.reduceAdd, Nat.reduceSub, Nat.zero_add, Nat.sub_self, Int.reduceNeg, String.reduceEq, decide_true, decide_false, decide_eq_true_eq, if_true, if_false, Bool.false_eq_true, reduceCtorEq, PySem.sizeLine_eq, Nat.reduceLeDiff, Nat.reduceLT, true_and, and_true, Bool.not_true, Bool.not_false, reduceIte, eq_self]))
namespace K77
open PySem L2 WA
def topS (i : Nat) : Stmt := PySem.Challenge.pw_weavewrit_k77_cuts_in_order.main.body.getD i (.Pass ⟨0, 0, 0, 0⟩)
structure Txt (mg : Str → Option Value) : Prop where
  b_len : mg "len" = none
  b_range : mg "range" = none
  b_enumerate : mg "enumerate" = none
  b_list : mg "list" = none
  b_int : mg "int" = none
section
variable {P : Program} {w : World} {K : PySem.W.Frag} {mg : Str → Option Value} {base : Heap}
abbrev s_bodies_of : Stmt := topS 1
abbrev N_bodies_of : List Str := ["statement"]
theorem sc_bodies_of : FnScope N_bodies_of ["statement"] (defScope s_bodies_of) := ⟨rfl, rfl, rfl, by decide +kernel, rfl, by decide +kernel, by decide +kernel⟩

abbrev s_with_body : Stmt := topS 3
abbrev N_with_body : List Str := ["statement", "number", "body"]
theorem sc_with_body : FnScope N_with_body ["statement", "number", "body"] (defScope s_with_body) := ⟨rfl, rfl, rfl, by decide +kernel, rfl, by decide +kernel, by decide +kernel⟩

abbrev s_within_bodies : Stmt := topS 4
abbrev N_within_bodies : List Str := ["body", "at", "change", "found", "statement", "number", "inner", "other"]
theorem sc_within_bodies : FnScope N_within_bodies ["body", "at", "change"] (defScope s_within_bodies) := ⟨rfl, rfl, rfl, by decide +kernel, rfl, by decide +kernel, by decide +kernel⟩

abbrev s_removals : Stmt := topS 5
abbrev N_removals : List Str := ["body", "found", "at"]
theorem sc_removals : FnScope N_removals ["body"] (defScope s_removals) := ⟨rfl, rfl, rfl, by decide +kernel, rfl, by decide +kernel, by decide +kernel⟩

abbrev s_hoists : Stmt := topS 6
abbrev N_hoists : List Str := ["body", "found", "at", "inner"]
theorem sc_hoists : FnScope N_hoists ["body"] (defScope s_hoists) := ⟨rfl, rfl, rfl, by decide +kernel, rfl, by decide +kernel, by decide +kernel⟩

abbrev s_without : Stmt := topS 7
abbrev N_without : List Str := ["row", "at"]
theorem sc_without : FnScope N_without ["row", "at"] (defScope s_without) := ⟨rfl, rfl, rfl, by decide +kernel, rfl, by decide +kernel, by decide +kernel⟩

abbrev s_thread_changes : Stmt := topS 8
abbrev N_thread_changes : List Str := ["program", "change", "found", "threads", "at", "name", "copies", "privates", "body", "other", "row"]
theorem sc_thread_changes : FnScope N_thread_changes ["program", "change"] (defScope s_thread_changes) := ⟨rfl, rfl, rfl, by decide +kernel, rfl, by decide +kernel, by decide +kernel⟩

abbrev s_cuts : Stmt := topS 9
abbrev N_cuts : List Str := ["program", "threads", "found", "at", "place", "name", "copies", "privates", "body", "number", "row"]
theorem sc_cuts : FnScope N_cuts ["program"] (defScope s_cuts) := ⟨rfl, rfl, rfl, by decide +kernel, rfl, by decide +kernel, by decide +kernel⟩

/-! bodies_of -/
def sp_bodies_of : ASp := fun xs S Q => ∃ s : Stm, xs = [s.enc] ∧ Q (.tup (s.bodies.map encB)) S
theorem ok_bodies_of {f : Addr} (T : Txt mg) (D : Df K mg "bodies_of" s_bodies_of ["statement"] f) : Fn P w K mg base 1 "bodies_of" f sp_bodies_of := by
  refine D.ok sc_bodies_of (fun xs S Q ⟨s, h, _⟩ => by rw [h]; rfl) fun cdv A outer s H E hr => ⟨_,
(ass_cons (as_if (at_cmp (oa_eq hr.units) (ae_ix ia_seq (ae_var 0) ae_int) ae_str)
  (ass_one (as_ret (ae_tup (aa_cons (ae_ix ia_seq (ae_var 0) ae_int) (aa_cons (ae_ix ia_seq (ae_var 0) ae_int) aa_nil)))))
  ass_nil)
  (ass_cons (as_if (at_cmp (oa_eq hr.units) (ae_ix ia_seq (ae_var 0) ae_int) ae_str)
  (ass_one (as_ret (ae_tup (aa_cons (ae_ix ia_seq (ae_var 0) ae_int) aa_nil))))
  ass_nil)
  (ass_cons (as_if (at_cmp (oa_eq hr.units) (ae_ix ia_seq (ae_var 0) ae_int) ae_str)
  (ass_one (as_ret (ae_tup (aa_cons (ae_ix ia_seq (ae_var 0) ae_int) aa_nil))))
  ass_nil)
  (ass_one (as_ret (ae_tup aa_nil)))))), ?_⟩
  rintro xs S Q ⟨s, rfl, q⟩
  cases s <;> (simp only [Stm.enc]; walk_at "wa"; exact Ret.at q)
/-! with_body -/
def sp_with_body : ASp := fun xs S Q => ∃ (s : Stm) (n : Nat) (b : List Stm), xs = [s.enc, .int n, encB b] ∧ n < s.bodies.length ∧ Q (s.withBody n b).enc S
theorem ok_with_body {f : Addr} (T : Txt mg) (D : Df K mg "with_body" s_with_body ["statement", "number", "body"] f) : Fn P w K mg base 1 "with_body" f sp_with_body := by
  refine D.ok sc_with_body (fun xs S Q ⟨s, n, b, h, _⟩ => by rw [h]; rfl) fun cdv A outer s H E hr => ⟨_,
(ass_cons (as_if (at_cmp (oa_eq hr.units) (ae_ix ia_seq (ae_var 0) ae_int) ae_str)
  (ass_one (as_ret (ae_if (at_cmp (oa_eq hr.units) (ae_var 1) ae_int) (ae_tup (aa_cons ae_str (aa_cons (ae_ix ia_seq (ae_var 0) ae_int) (aa_cons (ae_var 2) (aa_cons (ae_ix ia_seq (ae_var 0) ae_int) aa_nil))))) (ae_tup (aa_cons ae_str (aa_cons (ae_ix ia_seq (ae_var 0) ae_int) (aa_cons (ae_ix ia_seq (ae_var 0) ae_int) (aa_cons (ae_var 2) aa_nil))))))))
  ass_nil)
  (ass_cons (as_if (at_cmp (oa_eq hr.units) (ae_ix ia_seq (ae_var 0) ae_int) ae_str)
  (ass_one (as_ret (ae_tup (aa_cons ae_str (aa_cons (ae_ix ia_seq (ae_var 0) ae_int) (aa_cons (ae_var 2) aa_nil))))))
  ass_nil)
  (ass_one (as_ret (ae_tup (aa_cons ae_str (aa_cons (ae_var 2) aa_nil))))))), ?_⟩
  rintro xs S Q ⟨s, n, b, rfl, hn, q⟩
  cases s with
  | ite c x y =>
    simp only [Stm.enc, encB]; walk_at "wa"
    by_cases h : n = 0
    · subst h
      simp only [Stm.withBody, Stm.enc, if_true] at q
      simp
      exact Ret.at q
    · simp only [Stm.withBody, Stm.enc, if_neg h] at q
      simp [h]
      exact Ret.at q
  | wh c x =>
    simp only [Stm.enc, encB]; walk_at "wa"
    exact Ret.at q
  | lp x =>
    simp only [Stm.enc, encB]; walk_at "wa"
    exact Ret.at q
  | _ => simp [Stm.bodies] at hn
end
end K77

set_option Elab.async false
set_option maxRecDepth 100000
set_option maxHeartbeats 8000000
set_option linter.all false
namespace K77
open PySem L2 WA
section
variable {P : Program} {w : World} {K : PySem.W.Frag} {mg : Str → Option Value} {base : Heap}
/-! within_bodies, removals, hoists -/
def sp_ch (ch : List Stm → List (List Stm)) (n : Nat) : ASp := fun xs S Q => ∃ body, xs = [encB body] ∧ Stm.sizes body < n ∧ Stm.sizes body ≤ 1000 ∧ ∀ p, S p = none → Q (.ref p) (us S p (.lst ((ch body).map encB)))
def sp_within (f1 f2 : Addr) (n : Nat) : ASp := fun xs S Q => ∃ (body : List Stm) (i : Nat) (s : Stm) (g : Addr) (ch : List Stm → List (List Stm)), xs = [encB body, .int i, .ref g] ∧ body[i]? = some s ∧ Stm.sizes body ≤ 1000 ∧ s.size ≤ n ∧
  ((g = f1 ∧ ch = remM n) ∨ (g = f2 ∧ ch = hoiM n)) ∧ ∀ p, S p = none → Q (.ref p) (us S p (.lst ((withinM ch body i s).map encB)))
theorem ok_within_bodies {f f1 f2 fb fw : Addr} {n k : Nat} (T : Txt mg) (D : Df K mg "within_bodies" s_within_bodies ["body", "at", "change"] f) (F_bodies_of : Fn P w K mg base 1 "bodies_of" fb sp_bodies_of) (F_with_body : Fn P w K mg base 1 "with_body" fw sp_with_body)
    (F_removals : Fn P w K mg base (k + 1) "removals" f1 (sp_ch (remM n) n)) (F_hoists : Fn P w K mg base (k + 1) "hoists" f2 (sp_ch (hoiM n) n)) : Fn P w K mg base (k + 2) "within_bodies" f (sp_within f1 f2 n) := by
  refine D.ok sc_within_bodies (fun xs S Q ⟨body, i, s, g, ch, h, _⟩ => by rw [h]; rfl) fun cdv A0 outer s0 H E hr => ⟨_,
(ass_cons (as_set 3 sc_within_bodies.nd (ae_lst aa_nil))
  (ass_cons (as_set 4 sc_within_bodies.nd (ae_ix ia_seq (ae_var 0) (ae_var 1)))
  (ass_cons (as_for (ws := [5, 6]) PassesOwn.never rfl (ai_enum (by rfl) T.b_enumerate (aa_cons (ae_call F_bodies_of hr (by omega) (by rfl) (aa_cons (ae_var 4) aa_nil)) aa_nil)) (ag_tup (n := 2) rfl (ags_cons (ag_name 5 sc_within_bodies.nd) (ags_cons (ag_name 6 sc_within_bodies.nd) ags_nil)))
  (ass_one (as_for (ws := [7]) PassesOwn.never rfl (ai_seq (ae_callV (i := 2) F_removals F_hoists hr (by omega) (by omega) (aa_cons (ae_var 6) aa_nil))) (ag_name 7 sc_within_bodies.nd)
  (ass_one (as_expr (ae_lm PySem.F.slot_list_append PySem.F.type_list_append ma_append (ae_var 3) (aa_cons (ae_op oa_add (ae_op oa_add (ae_slice (ae_var 0) ap_none (ap_some (ae_var 1))) (ae_tup (aa_cons (ae_call F_with_body hr (by omega) (by rfl) (aa_cons (ae_var 4) (aa_cons (ae_var 5) (aa_cons (ae_var 7) aa_nil)))) aa_nil))) (ae_slice (ae_var 0) (ap_some (ae_op oa_add (ae_var 1) ae_int)) ap_none)) aa_nil)))))))
  (ass_one (as_ret (ae_var 3)))))), ?_⟩
  rintro xs S Q ⟨body, i, s, g, ch, rfl, hi, hsz, hn, hg, q⟩
  have hat : atI (Stm.encs body) (i : Int) = some s.enc := atI_nat (by rw [encs_get, hi]; rfl)
  have hlen := length_sizes body
  have hb : ∀ b ∈ s.bodies, Stm.sizes b < n ∧ Stm.sizes b ≤ 1000 := fun b hb => by
    have h1 := sizes_bodies hb
    have h2 := sizes_mem (List.mem_of_getElem? hi)
    omega
  have key : ∀ (S1 : Store) (bd : List Stm) (K : AK), bd ∈ s.bodies → (∀ q1, S1 q1 = none → K (.ref q1) (us S1 q1 (.lst ((ch bd).map encB)))) → (g = f1 ∧ sp_ch (remM n) n [encB bd] S1 K) ∨ (g = f2 ∧ sp_ch (hoiM n) n [encB bd] S1 K) := fun S1 bd K hm h => by
    have hbb := hb bd hm
    rcases hg with ⟨rfl, rfl⟩ | ⟨rfl, rfl⟩
    · exact .inl ⟨rfl, bd, rfl, hbb.1, hbb.2, h⟩
    · exact .inr ⟨rfl, bd, rfl, hbb.1, hbb.2, h⟩
  have hlc : ∀ bd, bd ∈ s.bodies → (ch bd).length ≤ 2000 := fun bd hm => by
    have h1 := remM_len n bd
    have h2 := hoiM_len n bd
    have h3 := hb bd hm
    rcases hg with ⟨_, rfl⟩ | ⟨_, rfl⟩ <;> omega
  walk_at "wa"
  intro p hp
  simp only [hat]
  refine ⟨s, rfl, ?_⟩
  walk_at "wa"
  refine for_E (fun j env S' => ∃ a b c, env = [some (encB body), some (.int i), some (.ref g), some (.ref p), some s.enc, a, b, c] ∧ Le S S' ∧
    S' p = some (.lst ((withinPart ch body i s j).map encB)) ∧ (withinPart ch body i s j).length ≤ 2000 * j) ⟨none, none, none, rfl, Le.new hp, us_same, Nat.zero_le _⟩ ?_ ?_
  · rintro j x env S1 hx ⟨a, b, c, rfl, le1, e1, l1⟩
    obtain ⟨bd, hbd, rfl⟩ : ∃ bd, s.bodies[j]? = some bd ∧ encB bd = x := by
      rw [List.getElem?_map] at hx
      cases h : s.bodies[j]? with
      | none => rw [h] at hx; cases hx
      | some bd => rw [h] at hx; exact ⟨bd, rfl, Option.some.inj hx⟩
    have hm := List.mem_of_getElem? hbd
    have hjl : j < s.bodies.length := (List.getElem?_eq_some_iff.mp hbd).1
    have hl2 := hlc bd hm
    have hj2 := bodies_two s
    walk_at "wa"
    refine key _ _ _ hm fun q1 hq1 => ?_
    walk_at "wa"
    have hpq : p ≠ q1 := sne e1 hq1
    refine for_L (xs := (ch bd).map encB) (fun m env S' => ∃ c, env = [some (encB body), some (.int i), some (.ref g), some (.ref p), some s.enc, some (.int j), some (encB bd), c] ∧ Le S S' ∧ S' q1 = some (.lst ((ch bd).map encB)) ∧
      S' p = some (.lst ((withinPart ch body i s j ++ ((ch bd).take m).map fun x => replAt body i [s.withBody j x]).map encB))) ⟨c, rfl, Le.trans le1 (Le.new hq1), us_same, by rw [us_ne hpq, e1]; simp⟩ (fun m env S' _ ⟨c, _, _, h, _⟩ => h) ?_ ?_
    · rintro m x env S2 hx ⟨c, rfl, le2, e2, e3⟩
      obtain ⟨y, hy, rfl⟩ : ∃ y, (ch bd)[m]? = some y ∧ encB y = x := by
        rw [List.getElem?_map] at hx
        cases h : (ch bd)[m]? with
        | none => rw [h] at hx; cases hx
        | some bd => rw [h] at hx; exact ⟨bd, rfl, Option.some.inj hx⟩
      walk_at "wa"
      refine ⟨⟨_, e3⟩, s, j, y, rfl, hjl, ?_⟩
      have e5 : A.tup ((Stm.encs body).take i ++ [(s.withBody j y).enc] ++ (Stm.encs body).drop (i + 1)) = encB (replAt body i [s.withBody j y]) := by
        unfold encB
        rw [encs_replAt]
        rfl
      have hlB : (Stm.encs body).length ≤ 1000 := by rw [encs_len]; omega
      simp only [cut_to, cut_from1, e3, e5, List.length_append, List.length_map, List.length_take, List.length_drop, List.length_cons, List.length_nil]
      refine ⟨by omega, by omega, by omega, _, rfl, Le.put le2 hp, by rw [us_ne hpq.symm]; exact e2, ?_⟩
      rw [take_snoc hy]
      simp
    · rintro env S2 ⟨c, rfl, le2, e2, e3⟩
      refine ⟨_, _, _, rfl, le2, ?_, ?_⟩
      · rw [withinPart_succ hbd]
        rw [List.length_map, List.take_of_length_le (Nat.le_refl _)] at e3
        exact e3
      · rw [withinPart_succ hbd, List.length_append, List.length_map]
        omega
  · rintro env S1 ⟨a, b, c, rfl, le1, e1, l1⟩
    walk_at "wa"
    rw [withinPart_all (by simp)] at e1
    exact ret_new hp le1 e1 (q p hp)
def part (F : Stm × Nat → List (List Stm)) (body : List Stm) (j : Nat) : List (List Stm) := (body.zipIdx.take j).flatMap F
theorem part_succ {F : Stm × Nat → List (List Stm)} {body : List Stm} {j : Nat} {s : Stm} (h : body[j]? = some s) : part F body (j + 1) = part F body j ++ F (s, j) := by
  unfold part
  have hz : body.zipIdx[j]? = some (s, j) := by rw [List.getElem?_zipIdx, h]; simp
  rw [take_snoc hz, flatMap_snoc]
theorem part_all {F : Stm × Nat → List (List Stm)} {body : List Stm} {j : Nat} (h : body.length ≤ j) : part F body j = body.zipIdx.flatMap F := by
  unfold part
  rw [List.take_of_length_le (by simpa using h)]
theorem part_len {F : Stm × Nat → List (List Stm)} {c : Nat} (body : List Stm) (j : Nat) (h : ∀ s j, s ∈ body → (F (s, j)).length ≤ c * s.size) : (part F body j).length ≤ c * Stm.sizes body := by
  have h1 := flat_len (F := F) (c := c) body 0 h
  unfold part
  have e : body.zipIdx.flatMap F = (body.zipIdx.take j).flatMap F ++ (body.zipIdx.drop j).flatMap F := by rw [← List.flatMap_append, List.take_append_drop]
  rw [e, List.length_append] at h1
  omega
theorem ok_removals {f f1 f2 : Addr} {n k : Nat} (T : Txt mg) (D : Df K mg "removals" s_removals ["body"] f1) (F_within_bodies : Fn P w K mg base (k + 2) "within_bodies" f (sp_within f1 f2 n)) : Fn P w K mg base (k + 3) "removals" f1 (sp_ch (remM (n + 1)) (n + 1)) := by
  have M_removals := D.mg_
  refine D.ok sc_removals (fun xs S Q ⟨body, h, _⟩ => by rw [h]; rfl) fun cdv A0 outer s0 H E hr => ⟨_,
(ass_cons (as_set 1 sc_removals.nd (ae_lst aa_nil))
  (ass_cons (as_for (ws := [2]) PassesOwn.never rfl (ai_range1 (by rfl) T.b_range (aa_cons (ae_callB ca_len (by rfl) T.b_len PySem.boot_len (aa_cons (ae_var 0) aa_nil)) aa_nil)) (ag_name 2 sc_removals.nd)
  (ass_cons (as_expr (ae_lm PySem.F.slot_list_append PySem.F.type_list_append ma_append (ae_var 1) (aa_cons (ae_op oa_add (ae_slice (ae_var 0) ap_none (ap_some (ae_var 2))) (ae_slice (ae_var 0) (ap_some (ae_op oa_add (ae_var 2) ae_int)) ap_none)) aa_nil)))
  (ass_one (as_expr (ae_lm PySem.F.slot_list_extend PySem.F.type_list_extend ma_extend (ae_var 1) (aa_cons (ae_call F_within_bodies hr (by omega) (by rfl) (aa_cons (ae_var 0) (aa_cons (ae_var 2) (aa_cons (ae_gref (by rfl) M_removals) aa_nil)))) aa_nil))))))
  (ass_one (as_ret (ae_var 1))))), ?_⟩
  rintro xs S Q ⟨body, rfl, hn, hsz, q⟩
  have hlen := length_sizes body
  have hF : ∀ s j, s ∈ body → ((fun p : Stm × Nat => replAt body p.2 [] :: withinM (remM n) body p.2 p.1) (s, j)).length ≤ 2 * s.size := fun s j _ => by
    have h1 := withinM_len (ch := remM n) (c := 2) (body := body) (i := j) (s := s) fun b _ => remM_len n b
    have h2 := sumSizes_bodies s
    simp only [List.length_cons]
    omega
  have hlB : (Stm.encs body).length ≤ 1000 := by rw [encs_len]; omega
  walk_at "wa"
  intro p hp
  refine ⟨by omega, by rw [encs_len]; omega, ?_⟩
  refine for_R0 (fun j env S' => ∃ a, env = [some (encB body), some (.ref p), a] ∧ Le S S' ∧ S' p = some (.lst ((part (fun p => replAt body p.2 [] :: withinM (remM n) body p.2 p.1) body j).map encB))) ⟨none, rfl, Le.new hp, us_same⟩ ?_ ?_
  · rintro j env S1 hj ⟨a, rfl, le1, e1⟩
    rw [encs_len] at hj
    obtain ⟨s, hs⟩ : ∃ s, body[j]? = some s := ⟨body[j], List.getElem?_eq_getElem hj⟩
    have hl := part_len (F := fun p : Stm × Nat => replAt body p.2 [] :: withinM (remM n) body p.2 p.1) body (j + 1) hF
    rw [part_succ hs, List.length_append, List.length_cons] at hl
    dsimp only at hl
    have e5 : A.tup ((Stm.encs body).take j ++ (Stm.encs body).drop (j + 1)) = encB (replAt body j []) := by
      unfold encB
      rw [encs_replAt]
      simp [Stm.encs]
    walk_at "wa"
    refine ⟨⟨_, e1⟩, ?_⟩
    simp only [cut_to, cut_from1, e1, e5, List.length_append, List.length_map, List.length_take, List.length_drop]
    refine ⟨by omega, by omega, ⟨_, rfl⟩, body, j, s, f1, remM n, rfl, hs, hsz, ?_, .inl ⟨rfl, rfl⟩, fun q1 hq1 => ?_⟩
    · have := sizes_mem (List.mem_of_getElem? hs)
      omega
    · have hpq : p ≠ q1 := sne us_same hq1
      walk_at "wa"
      simp only [us_ne hpq, us_same]
      refine ⟨?_, _, rfl, Le.put (Le.trans (Le.put le1 hp) (Le.new hq1)) hp, ?_⟩
      · simp only [List.length_append, List.length_map, List.length_cons, List.length_nil]
        omega
      · rw [part_succ hs]
        simp
  · rintro env S1 ⟨a, rfl, le1, e1⟩
    walk_at "wa"
    rw [part_all (by rw [encs_len]; exact Nat.le_refl _)] at e1
    exact ret_new hp le1 e1 (q p hp)
theorem ok_hoists {f f1 f2 fb : Addr} {n k : Nat} (T : Txt mg) (D : Df K mg "hoists" s_hoists ["body"] f2) (F_bodies_of : Fn P w K mg base 1 "bodies_of" fb sp_bodies_of) (F_within_bodies : Fn P w K mg base (k + 2) "within_bodies" f (sp_within f1 f2 n)) : Fn P w K mg base (k + 3) "hoists" f2 (sp_ch (hoiM (n + 1)) (n + 1)) := by
  have M_hoists := D.mg_
  refine D.ok sc_hoists (fun xs S Q ⟨body, h, _⟩ => by rw [h]; rfl) fun cdv A0 outer s0 H E hr => ⟨_,
(ass_cons (as_set 1 sc_hoists.nd (ae_lst aa_nil))
  (ass_cons (as_for (ws := [2]) PassesOwn.never rfl (ai_range1 (by rfl) T.b_range (aa_cons (ae_callB ca_len (by rfl) T.b_len PySem.boot_len (aa_cons (ae_var 0) aa_nil)) aa_nil)) (ag_name 2 sc_hoists.nd)
  (ass_cons (as_for (ws := [3]) PassesOwn.never rfl (ai_seq (ae_call F_bodies_of hr (by omega) (by rfl) (aa_cons (ae_ix ia_seq (ae_var 0) (ae_var 2)) aa_nil))) (ag_name 3 sc_hoists.nd)
  (ass_one (as_expr (ae_lm PySem.F.slot_list_append PySem.F.type_list_append ma_append (ae_var 1) (aa_cons (ae_op oa_add (ae_op oa_add (ae_slice (ae_var 0) ap_none (ap_some (ae_var 2))) (ae_var 3)) (ae_slice (ae_var 0) (ap_some (ae_op oa_add (ae_var 2) ae_int)) ap_none)) aa_nil)))))
  (ass_one (as_expr (ae_lm PySem.F.slot_list_extend PySem.F.type_list_extend ma_extend (ae_var 1) (aa_cons (ae_call F_within_bodies hr (by omega) (by rfl) (aa_cons (ae_var 0) (aa_cons (ae_var 2) (aa_cons (ae_gref (by rfl) M_hoists) aa_nil)))) aa_nil))))))
  (ass_one (as_ret (ae_var 1))))), ?_⟩
  rintro xs S Q ⟨body, rfl, hn, hsz, q⟩
  have hlen := length_sizes body
  have hF : ∀ s j, s ∈ body → ((fun p : Stm × Nat => p.1.bodies.map (replAt body p.2) ++ withinM (hoiM n) body p.2 p.1) (s, j)).length ≤ 2 * s.size := fun s j _ => by
    have h1 := withinM_len (ch := hoiM n) (c := 2) (body := body) (i := j) (s := s) fun b _ => hoiM_len n b
    have h2 := sumSizes_bodies s
    have h3 := bodies_two s
    simp only [List.length_append, List.length_map]
    omega
  have hlB : (Stm.encs body).length ≤ 1000 := by rw [encs_len]; omega
  walk_at "wa"
  intro p hp
  refine ⟨by omega, by rw [encs_len]; omega, ?_⟩
  refine for_R0 (fun j env S' => ∃ a b, env = [some (encB body), some (.ref p), a, b] ∧ Le S S' ∧ S' p = some (.lst ((part (fun p => p.1.bodies.map (replAt body p.2) ++ withinM (hoiM n) body p.2 p.1) body j).map encB))) ⟨none, none, rfl, Le.new hp, us_same⟩ ?_ ?_
  · rintro j env S1 hj ⟨a, b, rfl, le1, e1⟩
    rw [encs_len] at hj
    obtain ⟨s, hs⟩ : ∃ s, body[j]? = some s := ⟨body[j], List.getElem?_eq_getElem hj⟩
    have hl := part_len (F := fun p : Stm × Nat => p.1.bodies.map (replAt body p.2) ++ withinM (hoiM n) body p.2 p.1) body (j + 1) hF
    rw [part_succ hs, List.length_append, List.length_append, List.length_map] at hl
    dsimp only at hl
    have hat : atI (Stm.encs body) (j : Int) = some s.enc := atI_nat (by rw [encs_get, hs]; rfl)
    have hin : ∀ b ∈ s.bodies, b.length ≤ 1000 := fun b hb => by
      have h1 := sizes_bodies hb
      have h2 := sizes_mem (List.mem_of_getElem? hs)
      have h3 := length_sizes b
      omega
    walk_at "wa"
    simp only [hat]
    refine ⟨s, rfl, ?_⟩
    walk_at "wa"
    refine for_C (fun m env S' => ∃ b, env = [some (encB body), some (.ref p), some (.int j), b] ∧ Le S S' ∧ S' p = some (.lst ((part (fun p => p.1.bodies.map (replAt body p.2) ++ withinM (hoiM n) body p.2 p.1) body j ++ (s.bodies.take m).map (replAt body j)).map encB))) ⟨b, rfl, le1, by rw [e1]; simp⟩ ?_ ?_
    · rintro m x env S2 hx ⟨b, rfl, le2, e2⟩
      obtain ⟨bd, hbd, rfl⟩ : ∃ bd, s.bodies[m]? = some bd ∧ encB bd = x := by
        rw [List.getElem?_map] at hx
        cases h : s.bodies[m]? with
        | none => rw [h] at hx; cases hx
        | some bd => rw [h] at hx; exact ⟨bd, rfl, Option.some.inj hx⟩
      have hb1 := hin bd (List.mem_of_getElem? hbd)
      have hlb : (Stm.encs bd).length ≤ 1000 := by rw [encs_len]; exact hb1
      have e5 : A.tup ((Stm.encs body).take j ++ Stm.encs bd ++ (Stm.encs body).drop (j + 1)) = encB (replAt body j bd) := by
        unfold encB
        rw [encs_replAt]
      walk_at "wa"
      refine ⟨⟨_, e2⟩, ?_⟩
      simp only [encB, cut_to, cut_from1, e2, List.length_append, List.length_map, List.length_take, List.length_drop]
      refine ⟨by omega, by omega, by omega, _, rfl, Le.put le2 hp, ?_⟩
      rw [take_snoc hbd]
      rw [e5]
      simp
    · rintro env S2 ⟨b, rfl, le2, e2⟩
      rw [List.length_map, List.take_of_length_le (Nat.le_refl _)] at e2
      walk_at "wa"
      refine ⟨⟨_, e2⟩, body, j, s, f2, hoiM n, rfl, hs, hsz, ?_, .inr ⟨rfl, rfl⟩, fun q1 hq1 => ?_⟩
      · have := sizes_mem (List.mem_of_getElem? hs)
        omega
      · have hpq : p ≠ q1 := sne e2 hq1
        walk_at "wa"
        simp only [us_ne hpq, us_same, e2]
        refine ⟨?_, _, _, rfl, Le.put (Le.trans le2 (Le.new hq1)) hp, ?_⟩
        · simp only [List.length_append, List.length_map]
          omega
        · rw [part_succ hs]
          simp
  · rintro env S1 ⟨a, b, rfl, le1, e1⟩
    walk_at "wa"
    rw [part_all (by rw [encs_len]; exact Nat.le_refl _)] at e1
    exact ret_new hp le1 e1 (q p hp)
/-- removals and hoists of bodies below any size -/
theorem ok_ch {f f1 f2 fb fw : Addr} (T : Txt mg) (Dw : Df K mg "within_bodies" s_within_bodies ["body", "at", "change"] f) (D1 : Df K mg "removals" s_removals ["body"] f1) (D2 : Df K mg "hoists" s_hoists ["body"] f2)
    (F_bodies_of : Fn P w K mg base 1 "bodies_of" fb sp_bodies_of) (F_with_body : Fn P w K mg base 1 "with_body" fw sp_with_body) : ∀ n : Nat, Fn P w K mg base (2 * n + 1) "removals" f1 (sp_ch (remM n) n) ∧ Fn P w K mg base (2 * n + 1) "hoists" f2 (sp_ch (hoiM n) n)
  | 0 => ⟨(D1.never' fun xs S Q ⟨_, _, h, _⟩ => Nat.not_lt_zero _ h).mono (Nat.zero_le _), (D2.never' fun xs S Q ⟨_, _, h, _⟩ => Nat.not_lt_zero _ h).mono (Nat.zero_le _)⟩
  | n + 1 => by
    obtain ⟨h1, h2⟩ := ok_ch T Dw D1 D2 F_bodies_of F_with_body n
    have hw := ok_within_bodies T Dw F_bodies_of F_with_body h1 h2
    exact ⟨ok_removals T D1 hw, ok_hoists T D2 F_bodies_of hw⟩
end
end K77

set_option Elab.async false
set_option maxRecDepth 100000
set_option maxHeartbeats 8000000
set_option linter.all false
namespace K77
open PySem L2 WA
section
variable {P : Program} {w : World} {K : PySem.W.Frag} {mg : Str → Option Value} {base : Heap}
/-! without, thread_changes, cuts -/
def sp_without : ASp := fun xs S Q => ∃ (l : List A) (i : Nat), xs = [.tup l, .int i] ∧ l.length ≤ 1000 ∧ Q (.tup (outAt l i)) S
theorem ok_without {f : Addr} (T : Txt mg) (D : Df K mg "without" s_without ["row", "at"] f) : Fn P w K mg base 1 "without" f sp_without := by
  refine D.ok sc_without (fun xs S Q ⟨l, i, h, _⟩ => by rw [h]; rfl) fun cdv A0 outer s0 H E hr => ⟨_,
(ass_one (as_ret (ae_op oa_add (ae_slice (ae_var 0) ap_none (ap_some (ae_var 1))) (ae_slice (ae_var 0) (ap_some (ae_op oa_add (ae_var 1) ae_int)) ap_none)))), ?_⟩
  rintro xs S Q ⟨l, i, rfl, hl, q⟩
  walk_at "wa"
  simp only [cut_to, cut_from1, List.length_append, List.length_take, List.length_drop]
  exact ⟨by omega, Ret.at q⟩
def Prog.ok (p : Prog) (n : Nat) : Prop := p.threads.length ≤ 8 ∧ p.boxes.length ≤ 100 ∧ p.locks.length ≤ 100 ∧ p.queues.length ≤ 100 ∧ p.bags.length ≤ 100 ∧ ∀ t ∈ p.threads, Stm.sizes t.body < n ∧ Stm.sizes t.body ≤ 1000 ∧ t.privs.length ≤ 100
def sp_thread_changes (f1 f2 : Addr) (n : Nat) : ASp := fun xs S Q => ∃ (p : Prog) (g : Addr) (ch : List Stm → List (List Stm)), xs = [p.enc, .ref g] ∧ Prog.ok p n ∧
  ((g = f1 ∧ ch = remM n) ∨ (g = f2 ∧ ch = hoiM n)) ∧ ∀ r, S r = none → Q (.ref r) (us S r (.lst ((p.threads.zipIdx.flatMap (thrM ch p)).map Prog.enc)))
theorem ok_thread_changes {f f1 f2 : Addr} {n k : Nat} (T : Txt mg) (D : Df K mg "thread_changes" s_thread_changes ["program", "change"] f) (F_removals : Fn P w K mg base k "removals" f1 (sp_ch (remM n) n)) (F_hoists : Fn P w K mg base k "hoists" f2 (sp_ch (hoiM n) n)) : Fn P w K mg base (k + 1) "thread_changes" f (sp_thread_changes f1 f2 n) := by
  refine D.ok sc_thread_changes (fun xs S Q ⟨p, g, ch, h, _⟩ => by rw [h]; rfl) fun cdv A0 outer s0 H E hr => ⟨_,
(ass_cons (as_set 2 sc_thread_changes.nd (ae_lst aa_nil))
  (ass_cons (as_set 3 sc_thread_changes.nd (ae_ix ia_seq (ae_var 0) ae_int))
  (ass_cons (as_for (ws := [4]) PassesOwn.never rfl (ai_range1 (by rfl) T.b_range (aa_cons (ae_callB ca_len (by rfl) T.b_len PySem.boot_len (aa_cons (ae_var 3) aa_nil)) aa_nil)) (ag_name 4 sc_thread_changes.nd)
  (ass_cons (as_asg (ws := [5, 6, 7, 8]) (ae_ix ia_seq (ae_var 3) (ae_var 4)) (ag_tup (n := 4) rfl (ags_cons (ag_name 5 sc_thread_changes.nd) (ags_cons (ag_name 6 sc_thread_changes.nd) (ags_cons (ag_name 7 sc_thread_changes.nd) (ags_cons (ag_name 8 sc_thread_changes.nd) ags_nil))))))
  (ass_one (as_for (ws := [9]) PassesOwn.never rfl (ai_seq (ae_callV (i := 1) F_removals F_hoists hr (by omega) (by omega) (aa_cons (ae_var 8) aa_nil))) (ag_name 9 sc_thread_changes.nd)
  (ass_cons (as_set 10 sc_thread_changes.nd (ae_tup (aa_cons (ae_var 5) (aa_cons (ae_var 6) (aa_cons (ae_var 7) (aa_cons (ae_var 9) aa_nil))))))
  (ass_one (as_expr (ae_lm PySem.F.slot_list_append PySem.F.type_list_append ma_append (ae_var 2) (aa_cons (ae_op oa_add (ae_slice (ae_var 0) ap_none (ap_some ae_int)) (ae_tup (aa_cons (ae_op oa_add (ae_op oa_add (ae_slice (ae_var 3) ap_none (ap_some (ae_var 4))) (ae_tup (aa_cons (ae_var 10) aa_nil))) (ae_slice (ae_var 3) (ap_some (ae_op oa_add (ae_var 4) ae_int)) ap_none)) aa_nil))) aa_nil)))))))))
  (ass_one (as_ret (ae_var 2)))))), ?_⟩
  rintro xs S Q ⟨p, g, ch, rfl, hp, hg, q⟩
  have key : ∀ (S1 : Store) (t : Thr) (K : AK), t ∈ p.threads → (∀ q1, S1 q1 = none → K (.ref q1) (us S1 q1 (.lst ((ch t.body).map encB)))) → (g = f1 ∧ sp_ch (remM n) n [encB t.body] S1 K) ∨ (g = f2 ∧ sp_ch (hoiM n) n [encB t.body] S1 K) := fun S1 t K hm h => by
    have hbb := hp.2.2.2.2.2 t hm
    rcases hg with ⟨rfl, rfl⟩ | ⟨rfl, rfl⟩
    · exact .inl ⟨rfl, t.body, rfl, hbb.1, hbb.2.1, h⟩
    · exact .inr ⟨rfl, t.body, rfl, hbb.1, hbb.2.1, h⟩
  have hlc : ∀ t ∈ p.threads, (ch t.body).length ≤ 2000 := fun t hm => by
    have h1 := remM_len n t.body
    have h2 := hoiM_len n t.body
    have h3 := hp.2.2.2.2.2 t hm
    rcases hg with ⟨_, rfl⟩ | ⟨_, rfl⟩ <;> omega
  have hl : ∀ j, (partG (thrM ch p) p.threads j).length ≤ 2000 * j := partG_len fun t j hm => by
    have := hlc t hm
    simp only [thrM, List.length_map]
    exact this
  have hth := hp.1
  simp only [Prog.enc]
  walk_at "wa"
  intro r hr
  refine ⟨by omega, by rw [List.length_map]; omega, ?_⟩
  refine for_R0 (fun j env S' => ∃ a1 a2 a3 a4 a5 a6 a7, env = [some p.enc, some (.ref g), some (.ref r), some (.tup (p.threads.map Thr.enc)), a1, a2, a3, a4, a5, a6, a7] ∧ Le S S' ∧ S' r = some (.lst ((partG (thrM ch p) p.threads j).map Prog.enc))) ⟨none, none, none, none, none, none, none, rfl, Le.new hr, us_same⟩ ?_ ?_
  · rintro j env S1 hj ⟨a1, a2, a3, a4, a5, a6, a7, rfl, le1, e1⟩
    rw [List.length_map] at hj
    obtain ⟨t, ht⟩ := get_of_lt hj
    have htm := List.mem_of_getElem? ht
    have hl1 := hl j
    walk_at "wa"
    simp only [atI_map ht, Thr.enc]
    walk_at "wa"
    refine key _ _ _ htm fun q1 hq1 => ?_
    walk_at "wa"
    have hrq : r ≠ q1 := sne e1 hq1
    have hc1 := hlc t htm
    refine for_L (xs := (ch t.body).map encB) (fun m env S' => ∃ a6 a7, env = [some p.enc, some (.ref g), some (.ref r), some (.tup (p.threads.map Thr.enc)), some (.int j), some (.str t.name), some t.copies, some (.tup t.privs), some (encB t.body), a6, a7] ∧ Le S S' ∧ S' q1 = some (.lst ((ch t.body).map encB)) ∧
      S' r = some (.lst ((partG (thrM ch p) p.threads j ++ ((ch t.body).take m).map fun b => { p with threads := putAt p.threads j { t with body := b } }).map Prog.enc))) ⟨a6, a7, rfl, Le.trans le1 (Le.new hq1), us_same, by rw [us_ne hrq, e1]; simp⟩ (fun m env S' _ ⟨_, _, _, _, h, _⟩ => h) ?_ ?_
    · rintro m x env S2 hx ⟨a6, a7, rfl, le2, e2, e3⟩
      obtain ⟨y, hy, rfl⟩ := map_get hx
      have e5 : ∀ z : Thr, A.tup ([A.str p.name, A.tup p.boxes, A.tup p.locks, A.tup p.queues, A.tup p.bags] ++ [A.tup ((p.threads.map Thr.enc).take j ++ [z.enc] ++ (p.threads.map Thr.enc).drop (j + 1))]) = Prog.enc { p with threads := putAt p.threads j z } := fun z => by
        simp only [Prog.enc, putAt_map]
        rfl
      have c5 : cut [A.str p.name, A.tup p.boxes, A.tup p.locks, A.tup p.queues, A.tup p.bags, A.tup (p.threads.map Thr.enc)] none (some 5) = [A.str p.name, A.tup p.boxes, A.tup p.locks, A.tup p.queues, A.tup p.bags] := rfl
      simp only [Prog.enc]
      walk_at "wa"
      refine ⟨⟨_, e3⟩, ?_⟩
      have e6 := e5 { t with body := y }
      simp only [Thr.enc, List.cons_append, List.nil_append] at e6
      simp only [cut_to, cut_from1, c5, e3, List.length_append, List.length_map, List.length_take, List.length_drop, List.length_cons, List.length_nil, List.cons_append, List.nil_append]
      refine ⟨by omega, by omega, by omega, by omega, _, _, rfl, Le.put le2 hr, by rw [us_ne hrq.symm]; exact e2, ?_⟩
      rw [take_snoc hy, e6]
      simp
    · rintro env S2 ⟨a6, a7, rfl, le2, e2, e3⟩
      refine ⟨_, _, _, _, _, _, _, rfl, le2, ?_⟩
      rw [partG_succ ht]
      rw [List.length_map, List.take_of_length_le (Nat.le_refl _)] at e3
      exact e3
  · rintro env S1 ⟨a1, a2, a3, a4, a5, a6, a7, rfl, le1, e1⟩
    walk_at "wa"
    rw [partG_all (by rw [List.length_map]; exact Nat.le_refl _)] at e1
    exact ret_new hr le1 e1 (q r hr)
def sp_cuts (n : Nat) : ASp := fun xs S Q => ∃ p : Prog, xs = [p.enc] ∧ Prog.ok p n ∧ ∀ r, S r = none → Q (.ref r) (us S r (.lst ((cutsM n p).map Prog.enc)))
theorem ok_cuts {f f1 f2 ft fw : Addr} {n k : Nat} (hk : 1 ≤ k) (T : Txt mg) (D : Df K mg "cuts" s_cuts ["program"] f) (M_removals : mg "removals" = some (.ref f1)) (M_hoists : mg "hoists" = some (.ref f2)) (F_without : Fn P w K mg base 1 "without" fw sp_without) (F_thread_changes : Fn P w K mg base k "thread_changes" ft (sp_thread_changes f1 f2 n)) : Fn P w K mg base (k + 1) "cuts" f (sp_cuts n) := by
  refine D.ok sc_cuts (fun xs S Q ⟨p, h, _⟩ => by rw [h]; rfl) fun cdv A0 outer s0 H E hr => ⟨_,
(ass_cons (as_set 1 sc_cuts.nd (ae_ix ia_seq (ae_var 0) ae_int))
  (ass_cons (as_set 2 sc_cuts.nd (ae_lst aa_nil))
  (ass_cut (as_if (at_cmp oa_gt (ae_callB ca_len (by rfl) T.b_len PySem.boot_len (aa_cons (ae_var 1) aa_nil)) ae_int)
  (ass_one (as_expr (ae_lm PySem.F.slot_list_extend PySem.F.type_list_extend ma_extend (ae_var 2) (aa_cons (ae_lc (own := [("at", 3)]) rfl sc_cuts.nd (ai_range1 (by rfl) T.b_range (aa_cons (ae_callB ca_len (by rfl) T.b_len PySem.boot_len (aa_cons (ae_var 1) aa_nil)) aa_nil)) (blkOk_by (own := [("at", 3)]) (N := N_cuts) (sc := defScope s_cuts) (by decide +kernel)) (fun _ _ _ _ _ => (ag_name 3 sc_cuts.nd)) (fun _ _ _ _ _ => ats_nil) (fun _ _ _ _ _ => (ae_op oa_add (ae_slice (ae_var 0) ap_none (ap_some ae_int)) (ae_tup (aa_cons (ae_call F_without hr (by omega) (by rfl) (aa_cons (ae_var 1) (aa_cons (ae_var 3) aa_nil))) aa_nil))))) aa_nil))))
  ass_nil)
  (ass_cons (as_expr (ae_lm PySem.F.slot_list_extend PySem.F.type_list_extend ma_extend (ae_var 2) (aa_cons (ae_call F_thread_changes hr (by omega) (by rfl) (aa_cons (ae_var 0) (aa_cons (ae_gref (by rfl) M_removals) aa_nil))) aa_nil)))
  (ass_cons (as_expr (ae_lm PySem.F.slot_list_extend PySem.F.type_list_extend ma_extend (ae_var 2) (aa_cons (ae_call F_thread_changes hr (by omega) (by rfl) (aa_cons (ae_var 0) (aa_cons (ae_gref (by rfl) M_hoists) aa_nil))) aa_nil)))
  (ass_cons (as_for (ws := [4]) PassesOwn.never rfl (ai_range2 (by rfl) T.b_range (aa_cons ae_int (aa_cons ae_int aa_nil))) (ag_name 4 sc_cuts.nd)
  (ass_one (as_for (ws := [3]) PassesOwn.never rfl (ai_range1 (by rfl) T.b_range (aa_cons (ae_callB ca_len (by rfl) T.b_len PySem.boot_len (aa_cons (ae_ix ia_seq (ae_var 0) (ae_var 4)) aa_nil)) aa_nil)) (ag_name 3 sc_cuts.nd)
  (ass_one (as_expr (ae_lm PySem.F.slot_list_append PySem.F.type_list_append ma_append (ae_var 2) (aa_cons (ae_op oa_add (ae_op oa_add (ae_slice (ae_var 0) ap_none (ap_some (ae_var 4))) (ae_tup (aa_cons (ae_call F_without hr (by omega) (by rfl) (aa_cons (ae_ix ia_seq (ae_var 0) (ae_var 4)) (aa_cons (ae_var 3) aa_nil))) aa_nil))) (ae_slice (ae_var 0) (ap_some (ae_op oa_add (ae_var 4) ae_int)) ap_none)) aa_nil)))))))
  (ass_cons (as_for (ws := [3]) PassesOwn.never rfl (ai_range1 (by rfl) T.b_range (aa_cons (ae_callB ca_len (by rfl) T.b_len PySem.boot_len (aa_cons (ae_var 1) aa_nil)) aa_nil)) (ag_name 3 sc_cuts.nd)
  (ass_cons (as_asg (ws := [5, 6, 7, 8]) (ae_ix ia_seq (ae_var 1) (ae_var 3)) (ag_tup (n := 4) rfl (ags_cons (ag_name 5 sc_cuts.nd) (ags_cons (ag_name 6 sc_cuts.nd) (ags_cons (ag_name 7 sc_cuts.nd) (ags_cons (ag_name 8 sc_cuts.nd) ags_nil))))))
  (ass_one (as_for (ws := [9]) PassesOwn.never rfl (ai_range1 (by rfl) T.b_range (aa_cons (ae_callB ca_len (by rfl) T.b_len PySem.boot_len (aa_cons (ae_var 7) aa_nil)) aa_nil)) (ag_name 9 sc_cuts.nd)
  (ass_cons (as_set 10 sc_cuts.nd (ae_tup (aa_cons (ae_var 5) (aa_cons (ae_var 6) (aa_cons (ae_call F_without hr (by omega) (by rfl) (aa_cons (ae_var 7) (aa_cons (ae_var 9) aa_nil))) (aa_cons (ae_var 8) aa_nil))))))
  (ass_one (as_expr (ae_lm PySem.F.slot_list_append PySem.F.type_list_append ma_append (ae_var 2) (aa_cons (ae_op oa_add (ae_slice (ae_var 0) ap_none (ap_some ae_int)) (ae_tup (aa_cons (ae_op oa_add (ae_op oa_add (ae_slice (ae_var 1) ap_none (ap_some (ae_var 3))) (ae_tup (aa_cons (ae_var 10) aa_nil))) (ae_slice (ae_var 1) (ap_some (ae_op oa_add (ae_var 3) ae_int)) ap_none)) aa_nil))) aa_nil)))))))))
  (ass_one (as_ret (ae_var 2)))))))))), ?_⟩
  rintro xs S Q ⟨p, rfl, hp, q⟩
  obtain ⟨ht, hb1, hb2, hb3, hb4, htt⟩ := id hp
  have e5 : ∀ ts : List Thr, A.tup ([A.str p.name, A.tup p.boxes, A.tup p.locks, A.tup p.queues, A.tup p.bags] ++ [A.tup (ts.map Thr.enc)]) = Prog.enc { p with threads := ts } := fun ts => rfl
  have c5 : cut [A.str p.name, A.tup p.boxes, A.tup p.locks, A.tup p.queues, A.tup p.bags, A.tup (p.threads.map Thr.enc)] none (some 5) = [A.str p.name, A.tup p.boxes, A.tup p.locks, A.tup p.queues, A.tup p.bags] := rfl
  have hlr : ∀ ch : List Stm → List (List Stm), (∀ b, (ch b).length ≤ 2 * Stm.sizes b) → (p.threads.zipIdx.flatMap (thrM ch p)).length ≤ 2000 * 8 := fun ch hch => by
    have h1 := partG_len (F := thrM ch p) (l := p.threads) (c := 2000) (fun t j hm => by
      have := hch t.body
      have := htt t hm
      simp only [thrM, List.length_map]
      omega) p.threads.length
    rw [partG_all (Nat.le_refl _)] at h1
    omega
  have hl1 := hlr (remM n) (remM_len n)
  have hl2 := hlr (hoiM n) (hoiM_len n)
  simp only [Prog.enc]
  walk_at "wa"
  intro r hr
  refine ⟨fun env S' => env = [some p.enc, some (.tup (p.threads.map Thr.enc)), some (.ref r), none, none, none, none, none, none, none, none] ∧ Le S S' ∧ S' r = some (.lst ((if 1 < p.threads.length then p.threads.zipIdx.map fun z => { p with threads := outAt p.threads z.2 } else []).map Prog.enc)), ?_, ?_⟩
  · by_cases h : 1 < p.threads.length
    · rw [if_pos (by rw [List.length_map]; omega), if_pos h]
      refine ⟨⟨_, rfl⟩, by omega, by rw [List.length_map]; omega, fun D hD => ?_⟩
      have hrD : r ≠ D := sne us_same hD
      refine lc_mapR (f := fun i => Prog.enc { p with threads := outAt p.threads i }) (by rw [List.length_map]; omega) hD (fun i S' Qx hi le2 qx => ?_) ?_
      · walk_at "wa"
        simp only [c5]
        refine ⟨_, i, rfl, by rw [List.length_map]; omega, ?_⟩
        have e6 := e5 (outAt p.threads i)
        rw [outAt_map] at e6
        simp only [List.cons_append, List.nil_append] at e6
        walk_at "wa"
        rw [e6]
        exact qx
      · simp only [us_ne hrD, us_same]
        refine ⟨?_, rfl, Le.put (Le.trans (Le.new hr) (Le.new hD)) hr, ?_⟩
        · simp; omega
        · rw [List.nil_append]
          have e7 : (List.range (p.threads.map Thr.enc).length).map (fun i => Prog.enc { p with threads := outAt p.threads i }) = (p.threads.zipIdx.map fun z => ({ p with threads := outAt p.threads z.2 } : Prog)).map Prog.enc := by
            rw [List.length_map, List.map_map, List.range_eq_range', ← List.zipIdx_map_snd 0 p.threads, List.map_map]
            rfl
          rw [e7]
    · rw [if_neg (by rw [List.length_map]; omega), if_neg h]
      exact ⟨rfl, Le.new hr, us_same⟩
  · rintro env S1 ⟨rfl, le1, e1⟩
    rw [cutsM_eq] at q
    obtain ⟨L0, h0, hL0⟩ : ∃ L0, L0 = (if 1 < p.threads.length then p.threads.zipIdx.map fun z => ({ p with threads := outAt p.threads z.2 } : Prog) else []) ∧ L0.length ≤ 8 := ⟨_, rfl, by split <;> simp <;> omega⟩
    obtain ⟨L1, h1, hL1⟩ : ∃ L1, L1 = p.threads.zipIdx.flatMap (thrM (remM n) p) ∧ L1.length ≤ 16000 := ⟨_, rfl, hl1⟩
    obtain ⟨L2, h2, hL2⟩ : ∃ L2, L2 = p.threads.zipIdx.flatMap (thrM (hoiM n) p) ∧ L2.length ≤ 16000 := ⟨_, rfl, hl2⟩
    rw [← h0] at e1
    rw [← h0, ← h1, ← h2] at q
    walk_at "wa"
    refine ⟨⟨_, e1⟩, p, f1, remM n, rfl, hp, .inl ⟨rfl, rfl⟩, fun q1 hq1 => ?_⟩
    have hr1 : r ≠ q1 := sne e1 hq1
    rw [← h1]
    walk_at "wa"
    simp only [us_ne hr1, us_same, e1]
    refine ⟨by simp only [List.length_map]; omega, ⟨_, rfl⟩, p, f2, hoiM n, rfl, hp, .inr ⟨rfl, rfl⟩, fun q2 hq2 => ?_⟩
    have hr2 : r ≠ q2 := sne us_same hq2
    rw [← h2]
    walk_at "wa"
    simp only [us_ne hr2, us_same]
    refine ⟨by simp only [List.length_map, List.length_append]; omega, by decide, ?_⟩
    have hfl : ∀ i, (fldM p i).length ≤ 100 := fun i => by unfold fldM; split <;> assumption
    -- the declarations
    refine for_R (n := 4) (fun i env S' => ∃ a3 a4, env = [some p.enc, some (.tup (p.threads.map Thr.enc)), some (.ref r), a3, a4, none, none, none, none, none, none] ∧ Le S S' ∧ S' r = some (.lst ((L0 ++ L1 ++ L2 ++ declsM p i).map Prog.enc)) ∧ (declsM p i).length ≤ 100 * i)
      ⟨none, none, rfl, Le.put (Le.trans (Le.put (Le.trans le1 (Le.new hq1)) hr) (Le.new hq2)) hr, by rw [us_same]; simp [declsM], Nat.zero_le _⟩ ?_ ?_
    · rintro i env S2 hi ⟨a3, a4, rfl, le2, e2, l2⟩
      have hfi := hfl i
      have hfc := fld_cut_len p i
      rw [Prog.enc_L]
      walk_at "wa"
      simp only [fld_at p i hi]
      refine ⟨by omega, by omega, ?_⟩
      refine for_R0 (fun j env S' => ∃ a3, env = [some p.enc, some (.tup (p.threads.map Thr.enc)), some (.ref r), a3, some (.int (1 + (i : Int))), none, none, none, none, none, none] ∧ Le S S' ∧ S' r = some (.lst ((L0 ++ L1 ++ L2 ++ declsM p i ++ (declM p i).take j).map Prog.enc))) ⟨a3, rfl, le2, by rw [e2]; simp⟩ ?_ ?_
      · rintro j env S3 hj ⟨a3, rfl, le3, e3⟩
        obtain ⟨y, hy⟩ := get_of_lt hj
        have hz : (declM p i)[j]? = some (setFld p i (outAt (fldM p i) j)) := by
          unfold declM
          rw [List.getElem?_map, List.getElem?_zipIdx, hy]
          simp
        have hdl : (declM p i).length ≤ 100 := by unfold declM; simp; omega
        rw [Prog.enc_L]
        walk_at "wa"
        simp only [fld_at p i hi]
        refine ⟨⟨_, e3⟩, _, j, rfl, by omega, ?_⟩
        simp only [e3, fld_put p _ i hi, List.length_append, List.length_map, List.length_take, List.length_cons, List.length_nil]
        refine ⟨by omega, by omega, by omega, _, rfl, Le.put le3 hr, ?_⟩
        rw [take_snoc hz]
        simp
      · rintro env S3 ⟨a3, rfl, le3, e3⟩
        have hdl : (declM p i).length = (fldM p i).length := by unfold declM; simp
        rw [List.take_of_length_le (by omega)] at e3
        refine ⟨_, _, rfl, le3, ?_, ?_⟩
        · rw [e3, declsM, List.append_assoc, List.append_assoc]
        · rw [declsM, List.length_append]
          omega
    · rintro env S2 ⟨a3, a4, rfl, le2, e2, l2⟩
      walk_at "wa"
      refine ⟨by omega, by rw [List.length_map]; omega, ?_⟩
      have hpl : ∀ t j, t ∈ p.threads → (privM p (t, j)).length ≤ 100 := fun t j hm => by
        have := htt t hm
        simp only [privM, List.length_map, List.length_zipIdx]
        omega
      have hpl' := partG_len hpl
      -- the locals
      refine for_R0 (fun j env S' => ∃ a3 a4 a5 a6 a7 a8 a9 a10, env = [some p.enc, some (.tup (p.threads.map Thr.enc)), some (.ref r), a3, a4, a5, a6, a7, a8, a9, a10] ∧ Le S S' ∧ S' r = some (.lst ((L0 ++ L1 ++ L2 ++ declsM p 4 ++ partG (privM p) p.threads j).map Prog.enc)))
        ⟨_, _, _, _, _, _, _, _, rfl, le2, by rw [e2]; simp [partG_zero]⟩ ?_ ?_
      · rintro j env S3 hj ⟨a3, a4, a5, a6, a7, a8, a9, a10, rfl, le3, e3⟩
        rw [List.length_map] at hj
        obtain ⟨t, ht1⟩ := get_of_lt hj
        have htm := htt t (List.mem_of_getElem? ht1)
        have hj1 := hpl' j
        walk_at "wa"
        simp only [atI_map ht1, Thr.enc]
        walk_at "wa"
        refine ⟨by omega, by omega, ?_⟩
        refine for_R0 (fun m env S' => ∃ a9 a10, env = [some p.enc, some (.tup (p.threads.map Thr.enc)), some (.ref r), some (.int j), a4, some (.str t.name), some t.copies, some (.tup t.privs), some (encB t.body), a9, a10] ∧ Le S S' ∧ S' r = some (.lst ((L0 ++ L1 ++ L2 ++ declsM p 4 ++ partG (privM p) p.threads j ++ (privM p (t, j)).take m).map Prog.enc)))
          ⟨_, _, rfl, le3, by rw [e3]; simp⟩ ?_ ?_
        · rintro m env S4 hm ⟨a9, a10, rfl, le4, e4⟩
          obtain ⟨y, hy⟩ := get_of_lt hm
          have hz : (privM p (t, j))[m]? = some { p with threads := putAt p.threads j { t with privs := outAt t.privs m } } := by
            unfold privM
            rw [List.getElem?_map, List.getElem?_zipIdx, hy]
            simp
          have hdl : (privM p (t, j)).length ≤ 100 := hpl t j (List.mem_of_getElem? ht1)
          walk_at "wa"
          refine ⟨_, m, rfl, by omega, ?_⟩
          have e6 := e5 (putAt p.threads j { t with privs := outAt t.privs m })
          rw [putAt_map] at e6
          simp only [WA.putAt, Thr.enc, List.cons_append, List.nil_append] at e6
          simp only [Prog.enc]
          refine ⟨⟨_, e4⟩, ?_⟩
          simp only [cut_to, cut_from1, c5, e4, List.length_append, List.length_map, List.length_take, List.length_drop, List.length_cons, List.length_nil, List.cons_append, List.nil_append]
          refine ⟨by omega, by omega, by omega, by omega, _, _, rfl, Le.put le4 hr, ?_⟩
          rw [take_snoc hz, e6]
          simp [WA.putAt]
        · rintro env S4 ⟨a9, a10, rfl, le4, e4⟩
          have hdl : (privM p (t, j)).length = t.privs.length := by unfold privM; simp
          rw [List.take_of_length_le (by omega)] at e4
          refine ⟨_, _, _, _, _, _, _, _, rfl, le4, ?_⟩
          rw [partG_succ ht1, e4, ← List.append_assoc]
      · rintro env S3 ⟨a3, a4, a5, a6, a7, a8, a9, a10, rfl, le3, e3⟩
        walk_at "wa"
        rw [partG_all (by rw [List.length_map]; exact Nat.le_refl _)] at e3
        exact ret_new hr le3 e3 (q r hr)
end
end K77

set_option Elab.async false
set_option maxRecDepth 100000
set_option maxHeartbeats 8000000
set_option linter.all false
namespace K77
open PySem L2 WA
section
variable {P : Program} {w : World} {K : PySem.W.Frag} {mg : Str → Option Value} {base : Heap}
abbrev s_law_inner : Stmt := topS 25
abbrev N_law_inner : List Str := ["row"]
theorem sc_law_inner : FnScope N_law_inner ["row"] (defScope s_law_inner) := ⟨rfl, rfl, rfl, by decide +kernel, rfl, by decide +kernel, by decide +kernel⟩

abbrev s_law_with_body : Stmt := topS 26
abbrev N_law_with_body : List Str := ["program", "at", "body", "row", "threads"]
theorem sc_law_with_body : FnScope N_law_with_body ["program", "at", "body"] (defScope s_law_with_body) := ⟨rfl, rfl, rfl, by decide +kernel, rfl, by decide +kernel, by decide +kernel⟩

abbrev s_law_put_body : Stmt := topS 27
abbrev N_law_put_body : List Str := ["row", "number", "body"]
theorem sc_law_put_body : FnScope N_law_put_body ["row", "number", "body"] (defScope s_law_put_body) := ⟨rfl, rfl, rfl, by decide +kernel, rfl, by decide +kernel, by decide +kernel⟩

abbrev s_law_deeper : Stmt := topS 28
abbrev N_law_deeper : List Str := ["body", "at", "changed", "found", "number", "rows", "other"]
theorem sc_law_deeper : FnScope N_law_deeper ["body", "at", "changed"] (defScope s_law_deeper) := ⟨rfl, rfl, rfl, by decide +kernel, rfl, by decide +kernel, by decide +kernel⟩

abbrev s_law_shorter : Stmt := topS 29
abbrev N_law_shorter : List Str := ["body", "found", "at", "inner"]
theorem sc_law_shorter : FnScope N_law_shorter ["body"] (defScope s_law_shorter) := ⟨rfl, rfl, rfl, by decide +kernel, rfl, by decide +kernel, by decide +kernel⟩

abbrev s_law_unframed : Stmt := topS 30
abbrev N_law_unframed : List Str := ["body", "found", "at", "inner"]
theorem sc_law_unframed : FnScope N_law_unframed ["body"] (defScope s_law_unframed) := ⟨rfl, rfl, rfl, by decide +kernel, rfl, by decide +kernel, by decide +kernel⟩

abbrev s_law_out : Stmt := topS 31
abbrev N_law_out : List Str := ["row", "at"]
theorem sc_law_out : FnScope N_law_out ["row", "at"] (defScope s_law_out) := ⟨rfl, rfl, rfl, by decide +kernel, rfl, by decide +kernel, by decide +kernel⟩

/-! the law's own reckoning of the cuts -/
def sp_law_inner : ASp := fun xs S Q => ∃ s : Stm, xs = [s.enc] ∧ ∀ p, S p = none → Q (.ref p) (us S p (.lst (s.bodies.map encB)))
theorem ok_law_inner {f : Addr} (T : Txt mg) (D : Df K mg "_law_inner" s_law_inner ["row"] f) : Fn P w K mg base 1 "_law_inner" f sp_law_inner := by
  refine D.ok sc_law_inner (fun xs S Q ⟨s, h, _⟩ => by rw [h]; rfl) fun cdv A0 outer s0 H E hr => ⟨_,
(ass_cons (as_if (at_cmp (oa_eq hr.units) (ae_ix ia_seq (ae_var 0) ae_int) ae_str)
  (ass_one (as_ret (ae_lst (aa_cons (ae_ix ia_seq (ae_var 0) ae_int) (aa_cons (ae_ix ia_seq (ae_var 0) ae_int) aa_nil)))))
  ass_nil)
  (ass_cons (as_if (at_cmp oa_in (ae_ix ia_seq (ae_var 0) ae_int) (ae_tup (aa_cons ae_str (aa_cons ae_str aa_nil))))
  (ass_one (as_ret (ae_lst (aa_cons (ae_ix ia_seq (ae_var 0) (ae_neg ae_int)) aa_nil))))
  ass_nil)
  (ass_one (as_ret (ae_lst aa_nil))))), ?_⟩
  rintro xs S Q ⟨s, rfl, q⟩
  cases s <;> (simp only [Stm.enc]; walk_at "wa"; intro p hp; exact Ret.at (q p hp))
theorem ok_law_put_body {f : Addr} (T : Txt mg) (D : Df K mg "_law_put_body" s_law_put_body ["row", "number", "body"] f) : Fn P w K mg base 1 "_law_put_body" f sp_with_body := by
  refine D.ok sc_law_put_body (fun xs S Q ⟨s, n, b, h, _⟩ => by rw [h]; rfl) fun cdv A0 outer s0 H E hr => ⟨_,
(ass_cons (as_if (at_w (aw_and (at_cmp (oa_eq hr.units) (ae_ix ia_seq (ae_var 0) ae_int) ae_str) (aw_and1 (at_cmp (oa_eq hr.units) (ae_var 1) ae_int))))
  (ass_one (as_ret (ae_tup (aa_cons ae_str (aa_cons (ae_ix ia_seq (ae_var 0) ae_int) (aa_cons (ae_ix ia_seq (ae_var 0) ae_int) (aa_cons (ae_var 2) aa_nil)))))))
  ass_nil)
  (ass_cons (as_if (at_cmp (oa_eq hr.units) (ae_ix ia_seq (ae_var 0) ae_int) ae_str)
  (ass_one (as_ret (ae_tup (aa_cons ae_str (aa_cons (ae_ix ia_seq (ae_var 0) ae_int) (aa_cons (ae_var 2) (aa_cons (ae_ix ia_seq (ae_var 0) ae_int) aa_nil)))))))
  ass_nil)
  (ass_one (as_ret (ae_op oa_add (ae_slice (ae_var 0) ap_none (ap_some (ae_neg ae_int))) (ae_tup (aa_cons (ae_var 2) aa_nil))))))), ?_⟩
  rintro xs S Q ⟨s, n, b, rfl, hn, q⟩
  cases s with
  | ite c x y =>
    simp only [Stm.enc, encB]; walk_at "wa"
    have hn2 : n < 2 := hn
    by_cases h : n = 0
    · subst h
      simp only [Stm.withBody, Stm.enc, if_true] at q
      simp
      exact Ret.at q
    · have h1 : n = 1 := by omega
      subst h1
      simp only [Stm.withBody, Stm.enc, if_neg h] at q
      simp
      exact Ret.at q
  | wh c x =>
    simp only [Stm.enc, encB]; walk_at "wa"
    exact Ret.at q
  | lp x =>
    simp only [Stm.enc, encB]; walk_at "wa"
    exact Ret.at q
  | _ => simp [Stm.bodies] at hn
theorem ok_law_out {f : Addr} (T : Txt mg) (D : Df K mg "_law_out" s_law_out ["row", "at"] f) : Fn P w K mg base 1 "_law_out" f sp_without := by
  refine D.ok sc_law_out (fun xs S Q ⟨l, i, h, _⟩ => by rw [h]; rfl) fun cdv A0 outer s0 H E hr => ⟨_,
(ass_one (as_ret (ae_op oa_add (ae_slice (ae_var 0) ap_none (ap_some (ae_var 1))) (ae_slice (ae_var 0) (ap_some (ae_op oa_add (ae_var 1) ae_int)) ap_none)))), ?_⟩
  rintro xs S Q ⟨l, i, rfl, hl, q⟩
  walk_at "wa"
  simp only [cut_to, cut_from1, List.length_append, List.length_take, List.length_drop]
  exact ⟨by omega, Ret.at q⟩
/-- the rows that stand at addresses -/
def rowsAt (S : Store) (cs : List (Addr × List (List Stm))) : Prop := ∀ z ∈ cs, S z.1 = some (.lst (z.2.map encB))
def deepM (body : List Stm) (i : Nat) (s : Stm) (rows : List (List (List Stm))) : List (List Stm) := rows.zipIdx.flatMap fun z => z.1.map fun x => replAt body i [s.withBody z.2 x]
def sp_law_deeper : ASp := fun xs S Q => ∃ (body : List Stm) (i : Nat) (s : Stm) (c : Addr) (cs : List (Addr × List (List Stm))), xs = [encB body, .int i, .ref c] ∧ body[i]? = some s ∧ Stm.sizes body ≤ 1000 ∧ cs.length = s.bodies.length ∧ S c = some (.lst (cs.map fun z => .ref z.1)) ∧ rowsAt S cs ∧ (∀ z ∈ cs, z.2.length ≤ 2000) ∧
  ∀ p, S p = none → Q (.ref p) (us S p (.lst ((deepM body i s (cs.map (·.2))).map encB)))
theorem ok_law_deeper {f fw : Addr} (T : Txt mg) (D : Df K mg "_law_deeper" s_law_deeper ["body", "at", "changed"] f) (F_law_put_body : Fn P w K mg base 1 "_law_put_body" fw sp_with_body) : Fn P w K mg base 2 "_law_deeper" f sp_law_deeper := by
  refine D.ok sc_law_deeper (fun xs S Q ⟨body, i, s, c, cs, h, _⟩ => by rw [h]; rfl) fun cdv A0 outer s0 H E hr => ⟨_,
(ass_cons (as_set 3 sc_law_deeper.nd (ae_lst aa_nil))
  (ass_cons (as_for (ws := [4, 5]) PassesOwn.never rfl (ai_enum (by rfl) T.b_enumerate (aa_cons (ae_var 2) aa_nil)) (ag_tup (n := 2) rfl (ags_cons (ag_name 4 sc_law_deeper.nd) (ags_cons (ag_name 5 sc_law_deeper.nd) ags_nil)))
  (ass_one (as_for (ws := [6]) PassesOwn.never rfl (ai_seq (ae_var 5)) (ag_name 6 sc_law_deeper.nd)
  (ass_one (as_expr (ae_lm PySem.F.slot_list_append PySem.F.type_list_append ma_append (ae_var 3) (aa_cons (ae_op oa_add (ae_op oa_add (ae_slice (ae_var 0) ap_none (ap_some (ae_var 1))) (ae_tup (aa_cons (ae_call F_law_put_body hr (by omega) (by rfl) (aa_cons (ae_ix ia_seq (ae_var 0) (ae_var 1)) (aa_cons (ae_var 4) (aa_cons (ae_var 6) aa_nil)))) aa_nil))) (ae_slice (ae_var 0) (ap_some (ae_op oa_add (ae_var 1) ae_int)) ap_none)) aa_nil)))))))
  (ass_one (as_ret (ae_var 3))))), ?_⟩
  rintro xs S Q ⟨body, i, s, c, cs, rfl, hi, hsz, hcl, hc, hcs, hcb, q⟩
  have hat : atI (Stm.encs body) (i : Int) = some s.enc := atI_nat (by rw [encs_get, hi]; rfl)
  have hlen := length_sizes body
  have hlB : (Stm.encs body).length ≤ 1000 := by rw [encs_len]; omega
  have hb2 := bodies_two s
  have hpl : ∀ r j, r ∈ cs.map (·.2) → ((fun z : List (List Stm) × Nat => z.1.map fun x => replAt body i [s.withBody z.2 x]) (r, j)).length ≤ 2000 := fun r j hm => by
    obtain ⟨z, hz, rfl⟩ := List.mem_map.mp hm
    simp only [List.length_map]
    exact hcb z hz
  have hpl' := partG_len (F := fun z : List (List Stm) × Nat => z.1.map fun x => replAt body i [s.withBody z.2 x]) (l := cs.map (·.2)) (c := 2000) hpl
  walk_at "wa"
  intro p hp
  have hcp : c ≠ p := sne hc hp
  simp only [us_ne hcp, hc]
  refine for_EL (xs := cs.map fun z => A.ref z.1) (fun j env S' => ∃ a b d, env = [some (encB body), some (.int i), some (.ref c), some (.ref p), a, b, d] ∧ Le S S' ∧ S' p = some (.lst ((partG (fun z : List (List Stm) × Nat => z.1.map fun x => replAt body i [s.withBody z.2 x]) (cs.map (·.2)) j).map encB))) ⟨none, none, none, rfl, Le.new hp, us_same⟩ (fun j env S' _ ⟨_, _, _, _, h, _⟩ => h _ _ hc) ?_ ?_
  · rintro j x env S1 hx ⟨a, b, d, rfl, le1, e1⟩
    obtain ⟨z, hz, rfl⟩ := map_get hx
    have hzm := List.mem_of_getElem? hz
    have hz1 := hcs z hzm
    have hzp : z.1 ≠ p := sne hz1 hp
    have hzl := hcb z hzm
    have hj := (List.getElem?_eq_some_iff.mp hz).1
    have hp1 := hpl' j
    walk_at "wa"
    simp only [le1 _ _ hz1]
    refine for_L (xs := z.2.map encB) (fun m env S' => ∃ d, env = [some (encB body), some (.int i), some (.ref c), some (.ref p), some (.int j), some (.ref z.1), d] ∧ Le S S' ∧
      S' p = some (.lst ((partG (fun z : List (List Stm) × Nat => z.1.map fun x => replAt body i [s.withBody z.2 x]) (cs.map (·.2)) j ++ (z.2.take m).map fun x => replAt body i [s.withBody j x]).map encB))) ⟨d, rfl, le1, by rw [e1]; simp⟩ (fun m env S' _ ⟨_, _, h, _⟩ => h _ _ hz1) ?_ ?_
    · rintro m x env S2 hx ⟨d, rfl, le2, e2⟩
      obtain ⟨y, hy, rfl⟩ := map_get hx
      have e5 : A.tup ((Stm.encs body).take i ++ [(s.withBody j y).enc] ++ (Stm.encs body).drop (i + 1)) = encB (replAt body i [s.withBody j y]) := by
        unfold encB
        rw [encs_replAt]
        rfl
      walk_at "wa"
      simp only [hat]
      refine ⟨⟨_, e2⟩, s, j, y, rfl, by omega, ?_⟩
      simp only [cut_to, cut_from1, e2, e5, List.length_append, List.length_map, List.length_take, List.length_drop, List.length_cons, List.length_nil]
      refine ⟨by omega, by omega, by omega, _, rfl, Le.put le2 hp, ?_⟩
      rw [take_snoc hy]
      simp
    · rintro env S2 ⟨d, rfl, le2, e2⟩
      refine ⟨_, _, _, rfl, le2, ?_⟩
      have hz2 : (cs.map (·.2))[j]? = some z.2 := by rw [List.getElem?_map, hz]; rfl
      rw [partG_succ hz2, e2, List.length_map, List.take_of_length_le (Nat.le_refl _)]
  · rintro env S1 ⟨a, b, d, rfl, le1, e1⟩
    walk_at "wa"
    rw [partG_all (by simp)] at e1
    exact ret_new hp le1 e1 (q p hp)
theorem deepM_eq {ch : List Stm → List (List Stm)} {body : List Stm} {i : Nat} {s : Stm} : deepM body i s (s.bodies.map ch) = withinM ch body i s := by
  unfold deepM withinM
  rw [List.zipIdx_map, List.flatMap_map]
  rfl
/-- the lists of the inner bodies, made one after another -/
theorem lc_rows {ch : List Stm → List (List Stm)} {te : ATE} {env0 : Env'} {S : Store} {Dd : Addr} {Qd : Store → Prop} {k : Nat} {bs : List (List Stm)} {a : Addr} (ha : S a = some (.lst (bs.map encB))) (hbl : bs.length ≤ 2) (hD : S Dd = none)
    (he : ∀ b S' (Qx : AK), b ∈ bs → Le S S' → (∀ p, S' p = none → Qx (.ref p) (us S' p (.lst ((ch b).map encB)))) → te (env0.set k (some (encB b))) S' Qx)
    (q : ∀ S' cs, Le S S' → S' Dd = some (.lst (cs.map fun z : Addr × List (List Stm) => A.ref z.1)) → rowsAt S' cs → cs.map (·.2) = bs.map ch → Qd S') : LcLoop (agName k) aYes te Dd Qd (itL a) env0 S := by
  have haD : a ≠ Dd := sne ha hD
  refine lc_by (bs.map encB) (fun i S' => ∃ cs : List (Addr × List (List Stm)), Le S S' ∧ S' Dd = some (.lst (cs.map fun z => A.ref z.1)) ∧ rowsAt S' cs ∧ cs.map (·.2) = (bs.take i).map ch) ⟨[], Le.new hD, us_same, (fun z hz => by cases hz), rfl⟩ (fun i S' _ ⟨cs, l, _⟩ => by unfold itL; rw [l _ _ ha]) ?_ ?_
  · rintro i x S1 hx ⟨cs, le1, e1, r1, m1⟩
    obtain ⟨b, hb, rfl⟩ := map_get hx
    show te (env0.set k (some (encB b))) S1 _
    refine he b S1 _ (List.mem_of_getElem? hb) le1 fun p hp => ?_
    have hDp : Dd ≠ p := sne e1 hp
    have hcl : cs.length ≤ 2 := by
      have := congrArg List.length m1
      simp at this
      omega
    refine ⟨cs.map fun z => A.ref z.1, by rw [us_ne hDp]; exact e1, by rw [List.length_map, sizeLine_eq]; omega, cs ++ [(p, ch b)], Le.put (Le.trans le1 (Le.new hp)) hD, by rw [us_same]; simp, fun z hz => ?_, ?_⟩
    · rcases List.mem_append.mp hz with hz | hz
      · have h1 := r1 z hz
        have hzp : z.1 ≠ p := sne h1 hp
        have hzD : z.1 ≠ Dd := fun e => by
          rw [e, e1] at h1
          injection h1 with h1
          injection h1 with h1
          -- a list of references is no list of bodies unless both are empty
          cases cs with
          | nil => cases hz
          | cons c0 cs =>
            cases q2 : z.2 with
            | nil => rw [q2] at h1; cases h1
            | cons y ys => rw [q2] at h1; simp [encB] at h1
        rw [us_ne hzD, us_ne hzp]
        exact h1
      · cases List.mem_singleton.mp hz
        rw [us_ne hDp.symm, us_same]
    · rw [List.map_append, m1, take_snoc hb, List.map_append]
      rfl
  · rintro S1 ⟨cs, le1, e1, r1, m1⟩
    rw [List.length_map, List.take_of_length_le (Nat.le_refl _)] at m1
    exact q S1 cs le1 e1 r1 m1
theorem ok_law_shorter {f fi fd : Addr} {n k : Nat} (T : Txt mg) (D : Df K mg "_law_shorter" s_law_shorter ["body"] f) (F_law_inner : Fn P w K mg base 1 "_law_inner" fi sp_law_inner) (F_law_deeper : Fn P w K mg base 2 "_law_deeper" fd sp_law_deeper)
    (F_law_shorter : Fn P w K mg base (k + 2) "_law_shorter" f (sp_ch (remM n) n)) : Fn P w K mg base (k + 3) "_law_shorter" f (sp_ch (remM (n + 1)) (n + 1)) := by
  refine D.ok sc_law_shorter (fun xs S Q ⟨body, h, _⟩ => by rw [h]; rfl) fun cdv A0 outer s0 H E hr => ⟨_,
(ass_cons (as_set 1 sc_law_shorter.nd (ae_lst aa_nil))
  (ass_cons (as_for (ws := [2]) PassesOwn.never rfl (ai_range1 (by rfl) T.b_range (aa_cons (ae_callB ca_len (by rfl) T.b_len PySem.boot_len (aa_cons (ae_var 0) aa_nil)) aa_nil)) (ag_name 2 sc_law_shorter.nd)
  (ass_cons (as_expr (ae_lm PySem.F.slot_list_append PySem.F.type_list_append ma_append (ae_var 1) (aa_cons (ae_op oa_add (ae_slice (ae_var 0) ap_none (ap_some (ae_var 2))) (ae_slice (ae_var 0) (ap_some (ae_op oa_add (ae_var 2) ae_int)) ap_none)) aa_nil)))
  (ass_one (as_set 1 sc_law_shorter.nd (ae_op oa_add (ae_var 1) (ae_call F_law_deeper hr (by omega) (by rfl) (aa_cons (ae_var 0) (aa_cons (ae_var 2) (aa_cons (ae_lc (own := [("inner", 3)]) rfl sc_law_shorter.nd (ai_seq (ae_call F_law_inner hr (by omega) (by rfl) (aa_cons (ae_ix ia_seq (ae_var 0) (ae_var 2)) aa_nil))) (blkOk_by (own := [("inner", 3)]) (N := N_law_shorter) (sc := defScope s_law_shorter) (by decide +kernel)) (fun _ _ _ _ _ => (ag_name 3 sc_law_shorter.nd)) (fun _ _ _ _ _ => ats_nil) (fun _ _ _ _ _ => (ae_call F_law_shorter hr (by omega) (by rfl) (aa_cons (ae_var 3) aa_nil)))) aa_nil)))))))))
  (ass_one (as_ret (ae_var 1))))), ?_⟩
  rintro xs S Q ⟨body, rfl, hn, hsz, q⟩
  have hlen := length_sizes body
  have hF : ∀ s j, s ∈ body → ((fun p : Stm × Nat => replAt body p.2 [] :: withinM (remM n) body p.2 p.1) (s, j)).length ≤ 2 * s.size := fun s j _ => by
    have h1 := withinM_len (ch := remM n) (c := 2) (body := body) (i := j) (s := s) fun b _ => remM_len n b
    have h2 := sumSizes_bodies s
    simp only [List.length_cons]
    omega
  have hlB : (Stm.encs body).length ≤ 1000 := by rw [encs_len]; omega
  walk_at "wa"
  intro p hp
  refine ⟨by omega, by rw [encs_len]; omega, ?_⟩
  refine for_R0 (fun j env S' => ∃ r a b, env = [some (encB body), some (.ref r), a, b] ∧ Le S S' ∧ S r = none ∧ S' r = some (.lst ((part (fun p => replAt body p.2 [] :: withinM (remM n) body p.2 p.1) body j).map encB))) ⟨p, none, none, rfl, Le.new hp, hp, us_same⟩ ?_ ?_
  · rintro j env S1 hj ⟨r, a, b, rfl, le1, hr, e1⟩
    rw [encs_len] at hj
    obtain ⟨s, hs⟩ := get_of_lt hj
    have hl := part_len (F := fun p : Stm × Nat => replAt body p.2 [] :: withinM (remM n) body p.2 p.1) body (j + 1) hF
    rw [part_succ hs, List.length_append, List.length_cons] at hl
    dsimp only at hl
    have hat : atI (Stm.encs body) (j : Int) = some s.enc := atI_nat (by rw [encs_get, hs]; rfl)
    have e5 : A.tup ((Stm.encs body).take j ++ (Stm.encs body).drop (j + 1)) = encB (replAt body j []) := by
      unfold encB
      rw [encs_replAt]
      simp [Stm.encs]
    have hb2 := bodies_two s
    have hin : ∀ b ∈ s.bodies, Stm.sizes b < n ∧ Stm.sizes b ≤ 1000 := fun b hb => by
      have h1 := sizes_bodies hb
      have h2 := sizes_mem (List.mem_of_getElem? hs)
      omega
    walk_at "wa"
    refine ⟨⟨_, e1⟩, ?_⟩
    simp only [cut_to, cut_from1, e1, e5, hat, List.length_append, List.length_map, List.length_take, List.length_drop]
    refine ⟨by omega, by omega, s, rfl, fun pa hpa => ?_⟩
    walk_at "wa"
    intro Dd hDd
    have hra : r ≠ pa := sne us_same hpa
    refine lc_rows (ch := remM n) (bs := s.bodies) us_same hb2 hDd (fun b S' Qx hb le2 hq => ?_) (fun S' cs le2 ec rc mc => ?_)
    · exact ⟨b, rfl, (hin b hb).1, (hin b hb).2, hq⟩
    · have hcl : cs.length = s.bodies.length := by
        have := congrArg List.length mc
        simpa using this
      refine ⟨body, j, s, Dd, cs, rfl, hs, hsz, hcl, ec, rc, fun z hz => ?_, fun pd hpd => ?_⟩
      · have hm : z.2 ∈ cs.map (·.2) := List.mem_map_of_mem hz
        rw [mc] at hm
        obtain ⟨b, hb, e⟩ := List.mem_map.mp hm
        rw [← e]
        have := remM_len n b
        have := hin b hb
        omega
      · rw [mc, deepM_eq]
        have e2 : S' r = some (.lst ((part (fun p => replAt body p.2 [] :: withinM (remM n) body p.2 p.1) body j).map encB ++ [encB (replAt body j [])])) := le2 _ _ (by rw [us_ne hra, us_same])
        have hrp : r ≠ pd := sne e2 hpd
        have le3 : Le S S' := Le.trans (Le.trans (Le.put le1 hr) (Le.new hpa)) le2
        walk_at "wa"
        simp only [us_ne hrp, us_same, e2]
        refine ⟨?_, fun pz hpz => ⟨pz, _, _, rfl, ?_, ?_, ?_⟩⟩
        · simp only [List.length_append, List.length_map, List.length_cons, List.length_nil]
          omega
        · exact Le.trans (Le.trans le3 (Le.new hpd)) (Le.new hpz)
        · exact Le.none (Le.trans le3 (Le.new hpd)) hpz
        · rw [us_same, part_succ hs]
          simp
  · rintro env S1 ⟨r, a, b, rfl, le1, hr, e1⟩
    walk_at "wa"
    rw [part_all (by rw [encs_len]; exact Nat.le_refl _)] at e1
    exact ret_new hr le1 e1 (q r hr)
theorem ok_law_unframed {f fi fd : Addr} {n k : Nat} (T : Txt mg) (D : Df K mg "_law_unframed" s_law_unframed ["body"] f) (F_law_inner : Fn P w K mg base 1 "_law_inner" fi sp_law_inner) (F_law_deeper : Fn P w K mg base 2 "_law_deeper" fd sp_law_deeper)
    (F_law_unframed : Fn P w K mg base (k + 2) "_law_unframed" f (sp_ch (hoiM n) n)) : Fn P w K mg base (k + 3) "_law_unframed" f (sp_ch (hoiM (n + 1)) (n + 1)) := by
  refine D.ok sc_law_unframed (fun xs S Q ⟨body, h, _⟩ => by rw [h]; rfl) fun cdv A0 outer s0 H E hr => ⟨_,
(ass_cons (as_set 1 sc_law_unframed.nd (ae_lst aa_nil))
  (ass_cons (as_for (ws := [2]) PassesOwn.never rfl (ai_range1 (by rfl) T.b_range (aa_cons (ae_callB ca_len (by rfl) T.b_len PySem.boot_len (aa_cons (ae_var 0) aa_nil)) aa_nil)) (ag_name 2 sc_law_unframed.nd)
  (ass_cons (as_set 1 sc_law_unframed.nd (ae_op oa_add (ae_var 1) (ae_lc (own := [("inner", 3)]) rfl sc_law_unframed.nd (ai_seq (ae_call F_law_inner hr (by omega) (by rfl) (aa_cons (ae_ix ia_seq (ae_var 0) (ae_var 2)) aa_nil))) (blkOk_by (own := [("inner", 3)]) (N := N_law_unframed) (sc := defScope s_law_unframed) (by decide +kernel)) (fun _ _ _ _ _ => (ag_name 3 sc_law_unframed.nd)) (fun _ _ _ _ _ => ats_nil) (fun _ _ _ _ _ => (ae_op oa_add (ae_op oa_add (ae_slice (ae_var 0) ap_none (ap_some (ae_var 2))) (ae_var 3)) (ae_slice (ae_var 0) (ap_some (ae_op oa_add (ae_var 2) ae_int)) ap_none))))))
  (ass_one (as_set 1 sc_law_unframed.nd (ae_op oa_add (ae_var 1) (ae_call F_law_deeper hr (by omega) (by rfl) (aa_cons (ae_var 0) (aa_cons (ae_var 2) (aa_cons (ae_lc (own := [("inner", 3)]) rfl sc_law_unframed.nd (ai_seq (ae_call F_law_inner hr (by omega) (by rfl) (aa_cons (ae_ix ia_seq (ae_var 0) (ae_var 2)) aa_nil))) (blkOk_by (own := [("inner", 3)]) (N := N_law_unframed) (sc := defScope s_law_unframed) (by decide +kernel)) (fun _ _ _ _ _ => (ag_name 3 sc_law_unframed.nd)) (fun _ _ _ _ _ => ats_nil) (fun _ _ _ _ _ => (ae_call F_law_unframed hr (by omega) (by rfl) (aa_cons (ae_var 3) aa_nil)))) aa_nil)))))))))
  (ass_one (as_ret (ae_var 1))))), ?_⟩
  rintro xs S Q ⟨body, rfl, hn, hsz, q⟩
  have hlen := length_sizes body
  have hF : ∀ s j, s ∈ body → ((fun p : Stm × Nat => p.1.bodies.map (replAt body p.2) ++ withinM (hoiM n) body p.2 p.1) (s, j)).length ≤ 2 * s.size := fun s j _ => by
    have h1 := withinM_len (ch := hoiM n) (c := 2) (body := body) (i := j) (s := s) fun b _ => hoiM_len n b
    have h2 := sumSizes_bodies s
    have h3 := bodies_two s
    simp only [List.length_append, List.length_map]
    omega
  have hlB : (Stm.encs body).length ≤ 1000 := by rw [encs_len]; omega
  walk_at "wa"
  intro p hp
  refine ⟨by omega, by rw [encs_len]; omega, ?_⟩
  refine for_R0 (fun j env S' => ∃ r a b, env = [some (encB body), some (.ref r), a, b] ∧ Le S S' ∧ S r = none ∧ S' r = some (.lst ((part (fun p => p.1.bodies.map (replAt body p.2) ++ withinM (hoiM n) body p.2 p.1) body j).map encB))) ⟨p, none, none, rfl, Le.new hp, hp, us_same⟩ ?_ ?_
  · rintro j env S1 hj ⟨r, a, b, rfl, le1, hr, e1⟩
    rw [encs_len] at hj
    obtain ⟨s, hs⟩ := get_of_lt hj
    have hl := part_len (F := fun p : Stm × Nat => p.1.bodies.map (replAt body p.2) ++ withinM (hoiM n) body p.2 p.1) body (j + 1) hF
    rw [part_succ hs, List.length_append, List.length_append, List.length_map] at hl
    dsimp only at hl
    have hat : atI (Stm.encs body) (j : Int) = some s.enc := atI_nat (by rw [encs_get, hs]; rfl)
    have hb2 := bodies_two s
    have hin : ∀ b ∈ s.bodies, Stm.sizes b < n ∧ Stm.sizes b ≤ 1000 := fun b hb => by
      have h1 := sizes_bodies hb
      have h2 := sizes_mem (List.mem_of_getElem? hs)
      omega
    walk_at "wa"
    simp only [hat]
    refine ⟨s, rfl, fun pa hpa => ?_⟩
    walk_at "wa"
    intro Dd hDd
    have hra : r ≠ pa := sne e1 hpa
    refine lc_mapL (xs := s.bodies.map encB) (f := fun x => match x with | .tup l => A.tup ((Stm.encs body).take j ++ l ++ (Stm.encs body).drop (j + 1)) | _ => .non) us_same (by rw [List.length_map]; omega) hDd (fun x S' Qx hx le2 qx => ?_) ?_
    · obtain ⟨bd, hbd, rfl⟩ := List.mem_map.mp hx
      have h1 := hin bd hbd
      have h2 := length_sizes bd
      have hlb : (Stm.encs bd).length ≤ 1000 := by rw [encs_len]; omega
      walk_at "wa"
      simp only [cut_to, cut_from1, List.length_append, List.length_take, List.length_drop]
      exact ⟨by omega, by omega, qx⟩
    · have e6 : (s.bodies.map encB).map (fun x => match x with | .tup l => A.tup ((Stm.encs body).take j ++ l ++ (Stm.encs body).drop (j + 1)) | _ => .non) = (s.bodies.map (replAt body j)).map encB := by
        rw [List.map_map, List.map_map]
        refine List.map_congr_left fun bd _ => ?_
        show A.tup _ = encB _
        unfold encB
        rw [encs_replAt]
      rw [e6]
      have hrD : r ≠ Dd := sne (by rw [us_ne hra]; exact e1) hDd
      simp only [us_ne hrD, us_ne hra, us_same, e1]
      refine ⟨by simp only [List.length_map]; omega, fun p2 hp2 => ?_⟩
      have le2 : Le S (us (us S1 pa (MO.lst (s.bodies.map encB))) Dd (MO.lst ((s.bodies.map (replAt body j)).map encB))) := Le.trans (Le.trans le1 (Le.new hpa)) (Le.new hDd)
      refine ⟨s, rfl, fun pb hpb => ?_⟩
      walk_at "wa"
      intro Dd2 hDd2
      refine lc_rows (ch := hoiM n) (bs := s.bodies) us_same hb2 hDd2 (fun b S' Qx hb le2 hq => ?_) (fun S' cs le3 ec rc mc => ?_)
      · exact ⟨b, rfl, (hin b hb).1, (hin b hb).2, hq⟩
      · have hcl : cs.length = s.bodies.length := by
          have := congrArg List.length mc
          simpa using this
        refine ⟨body, j, s, Dd2, cs, rfl, hs, hsz, hcl, ec, rc, fun z hz => ?_, fun pd hpd => ?_⟩
        · have hm : z.2 ∈ cs.map (·.2) := List.mem_map_of_mem hz
          rw [mc] at hm
          obtain ⟨b, hb, e⟩ := List.mem_map.mp hm
          rw [← e]
          have := hoiM_len n b
          have := hin b hb
          omega
        · rw [mc, deepM_eq]
          have e2 := le3 _ _ ((Le.new hpb) _ _ (us_same (S := us (us S1 pa (MO.lst (s.bodies.map encB))) Dd (MO.lst ((s.bodies.map (replAt body j)).map encB))) (a := p2)))
          have hrp : p2 ≠ pd := sne e2 hpd
          have le4 : Le S S' := Le.trans (Le.trans (Le.trans le2 (Le.new hp2)) (Le.new hpb)) le3
          walk_at "wa"
          simp only [us_ne hrp, us_same, e2]
          refine ⟨?_, fun pz hpz => ⟨pz, _, _, rfl, ?_, ?_, ?_⟩⟩
          · simp only [List.length_append, List.length_map]
            omega
          · exact Le.trans (Le.trans le4 (Le.new hpd)) (Le.new hpz)
          · exact Le.none (Le.trans le4 (Le.new hpd)) hpz
          · rw [us_same, part_succ hs]
            simp
  · rintro env S1 ⟨r, a, b, rfl, le1, hr, e1⟩
    walk_at "wa"
    rw [part_all (by rw [encs_len]; exact Nat.le_refl _)] at e1
    exact ret_new hr le1 e1 (q r hr)
theorem ok_law_ch {f1 f2 fi fd : Addr} (T : Txt mg) (D1 : Df K mg "_law_shorter" s_law_shorter ["body"] f1) (D2 : Df K mg "_law_unframed" s_law_unframed ["body"] f2) (F_law_inner : Fn P w K mg base 1 "_law_inner" fi sp_law_inner) (F_law_deeper : Fn P w K mg base 2 "_law_deeper" fd sp_law_deeper) :
    ∀ n : Nat, Fn P w K mg base (n + 2) "_law_shorter" f1 (sp_ch (remM n) n) ∧ Fn P w K mg base (n + 2) "_law_unframed" f2 (sp_ch (hoiM n) n)
  | 0 => ⟨(D1.never' fun xs S Q ⟨_, _, h, _⟩ => Nat.not_lt_zero _ h).mono (Nat.zero_le _), (D2.never' fun xs S Q ⟨_, _, h, _⟩ => Nat.not_lt_zero _ h).mono (Nat.zero_le _)⟩
  | n + 1 => by
    obtain ⟨h1, h2⟩ := ok_law_ch T D1 D2 F_law_inner F_law_deeper n
    exact ⟨ok_law_shorter T D1 F_law_inner F_law_deeper h1, ok_law_unframed T D2 F_law_inner F_law_deeper h2⟩
def sp_law_with_body : ASp := fun xs S Q => ∃ (p : Prog) (i : Nat) (t : Thr) (b : List Stm), xs = [p.enc, .int i, encB b] ∧ p.threads[i]? = some t ∧ p.threads.length ≤ 8 ∧ Q (Prog.enc { p with threads := putAt p.threads i { t with body := b } }) S
theorem ok_law_with_body {f : Addr} (T : Txt mg) (D : Df K mg "_law_with_body" s_law_with_body ["program", "at", "body"] f) : Fn P w K mg base 1 "_law_with_body" f sp_law_with_body := by
  refine D.ok sc_law_with_body (fun xs S Q ⟨p, i, t, b, h, _⟩ => by rw [h]; rfl) fun cdv A0 outer s0 H E hr => ⟨_,
(ass_cons (as_set 3 sc_law_with_body.nd (ae_ix ia_seq (ae_ix ia_seq (ae_var 0) ae_int) (ae_var 1)))
  (ass_cons (as_set 4 sc_law_with_body.nd (ae_op oa_add (ae_op oa_add (ae_slice (ae_ix ia_seq (ae_var 0) ae_int) ap_none (ap_some (ae_var 1))) (ae_tup (aa_cons (ae_tup (aa_cons (ae_ix ia_seq (ae_var 3) ae_int) (aa_cons (ae_ix ia_seq (ae_var 3) ae_int) (aa_cons (ae_ix ia_seq (ae_var 3) ae_int) (aa_cons (ae_var 2) aa_nil))))) aa_nil))) (ae_slice (ae_ix ia_seq (ae_var 0) ae_int) (ap_some (ae_op oa_add (ae_var 1) ae_int)) ap_none)))
  (ass_one (as_ret (ae_tup (aa_cons (ae_ix ia_seq (ae_var 0) ae_int) (aa_cons (ae_ix ia_seq (ae_var 0) ae_int) (aa_cons (ae_ix ia_seq (ae_var 0) ae_int) (aa_cons (ae_ix ia_seq (ae_var 0) ae_int) (aa_cons (ae_ix ia_seq (ae_var 0) ae_int) (aa_cons (ae_var 4) aa_nil))))))))))), ?_⟩
  rintro xs S Q ⟨p, i, t, b, rfl, ht, hl, q⟩
  simp only [Prog.enc]
  walk_at "wa"
  simp only [atI_map ht, Thr.enc]
  walk_at "wa"
  simp only [cut_to, cut_from1, List.length_append, List.length_map, List.length_take, List.length_drop, List.length_cons, List.length_nil]
  have e6 : A.tup [A.str p.name, A.tup p.boxes, A.tup p.locks, A.tup p.queues, A.tup p.bags, A.tup ((p.threads.map Thr.enc).take i ++ A.tup [A.str t.name, t.copies, A.tup t.privs, encB b] :: (p.threads.map Thr.enc).drop (i + 1))] = Prog.enc { p with threads := putAt p.threads i { t with body := b } } := by
    simp only [Prog.enc, putAt_map]
    simp [WA.putAt, Thr.enc]
  simp only [List.append_assoc, List.cons_append, List.nil_append, e6]
  exact ⟨by omega, by omega, Ret.at q⟩
end
end K77

set_option Elab.async false
set_option maxRecDepth 100000
set_option maxHeartbeats 8000000
set_option linter.all false
local macro_rules | `(tactic| walk_at "wb") => `(tactic| (simp only [↓WA.startA, ↓WA.aSeq, ↓WA.aIfS, ↓WA.aSet, ↓WA.aDrop, ↓WA.aRet, ↓WA.aRetN, ↓WA.aSkip, ↓WA.aBreak, ↓WA.aCont, ↓WA.aAsg, ↓WA.aC, ↓WA.aIsN, ↓WA.aNotN, ↓WA.aAnd, ↓WA.aOr, ↓WA.aNot, ↓WA.aIf, ↓WA.aNil, ↓WA.aCons, ↓WA.aTup, ↓WA.aLst, ↓WA.aNoPart, ↓WA.agName, ↓WA.agNil, WA.A.isN, WA.wipeA, WA.atI_0, WA.atI_1, WA.atI_2, WA.atI_3, WA.atI_4, WA.atI_5, WA.str_inj, WA.str_beq, WA.flatA, WA.eqA, WA.atI_m1_1, WA.atI_m1_2, WA.atI_m1_3, WA.atI_m1_4, WA.cut_m1_2, WA.cut_m1_3, WA.us_same, WA.aYes, WA.KO_some, WA.KO_none, WA.KV_some, WA.KB_bl, WA.KI_int, WA.K1_one, WA.K2_two, WA.lsO_lst, ↓WA.aVar_, ↓WA.aTest_, ↓WA.aAndV_, ↓WA.aOrV_, ↓WA.aNotV_, ↓WA.aPart_, ↓WA.aNeg_, ↓WA.aCall_, ↓WA.aCallV_, ↓WA.aOp_, ↓WA.aCB_, ↓WA.aMeth_, ↓WA.aSl_, WA.oI0_, WA.oI_, WA.oSub, WA.oMul, WA.oFdiv, WA.oMod, WA.oPow, WA.oShl, WA.oShr, WA.oBand, WA.oBor, WA.oLt, WA.oLe, WA.oGt, WA.oGe, WA.oAdd_int, WA.oAdd_str, WA.oAdd_tup, WA.oAdd_ref, WA.oEq_int, WA.oEq_str, WA.oEq_bl, WA.oEq_tup, WA.oEq_ref, WA.oNe_int, WA.oNe_str, WA.oNe_bl, WA.oNe_tup, WA.oNe_ref, WA.oIn_tup, WA.oIn_fl, WA.oIn_ref, WA.oIn_str, WA.oIx_tup, WA.oIx_fl, WA.oIx_ref, WA.oIx_str, WA.sl_tup, WA.sl_fl, WA.sl_ref, WA.sl_str, WA.seqOf_tup, WA.seqOf_fl, WA.seqOf_ref, WA.cLen_str, WA.cLen_tup, WA.cLen_fl, WA.cLen_ref, WA.cList_, WA.cTuple_, WA.cInt_int, WA.cInt_bl, WA.isLst_ref, WA.mAppend, WA.mExtend, WA.mPop_0, WA.mPop_1, ↓WA.agTup_, ↓WA.agCons_, WA.Tg_, WA.Tc_, ↓WA.agSub_, WA.Sb_, WA.itOf_tup, WA.itOf_fl, WA.itOf_ref, ↓WA.aiSeq_, ↓WA.aiEnum_, ↓WA.aiRng1_, ↓WA.aiRng2_, ↓WA.aFor_, ↓WA.aLc_, ↓WA.aCut_, ↓WA.aWhile_, WA.ixN_1_0, WA.ixN_5_0, WA.ixN_5_1, WA.ixN_5_2, WA.ixN_5_3, WA.ixN_5_4,
  List.all_cons, List.all_nil, List.any_cons, List.any_nil, Bool.and_self, Bool.or_self, Bool.or_true, Bool.true_or, Bool.or_false, Bool.false_or, Bool.and_true, Bool.true_and, Bool.and_false, Bool.false_and, String.reduceBEq, List.getElem?_cons_zero, List.getElem?_cons_succ, List.set_cons_zero, List.set_cons_succ, List.length_cons, List.length_nil, List.map_cons, List.map_nil, List.cons_append, List.nil_append, List.append_nil, List.replicate_zero, List.replicate_succ, List.reduceReplicate, Nat.reduceAdd, Nat.reduceSub, Nat.zero_add, Nat.sub_self, Int.reduceNeg, Int.reduceToNat, String.reduceEq, decide_true, decide_false, decide_eq_true_eq, if_true, if_false, Bool.false_eq_true, reduceCtorEq, PySem.sizeLine_eq, Nat.reduceLeDiff, Nat.reduceLT, true_and, and_true, Bool.not_true, Bool.not_false, reduceIte, eq_self, Option.map_some, implies_true, List.length_map, WA.flat_strs, WA.cut_str2, WA.us_us, WA.us_ne, ne_eq, not_false_eq_true]))
local macro_rules | `(tactic| walk_at "wh") => `(tactic| (simp only [↓WA.startA, ↓WA.aSeq, ↓WA.aIfS, ↓WA.aSet, ↓WA.aDrop, ↓WA.aRet, ↓WA.aRetN, ↓WA.aSkip, ↓WA.aBreak, ↓WA.aCont, ↓WA.aAsg, ↓WA.aC, ↓WA.aIsN, ↓WA.aNotN, ↓WA.aAnd, ↓WA.aOr, ↓WA.aNot, ↓WA.aIf, ↓WA.aNil, ↓WA.aCons, ↓WA.aTup, ↓WA.aLst, ↓WA.aNoPart, ↓WA.agName, ↓WA.agNil, WA.A.isN, WA.wipeA, WA.atI_0, WA.atI_1, WA.atI_2, WA.atI_3, WA.atI_4, WA.atI_5, WA.str_inj, WA.str_beq, WA.flatA, WA.eqA, WA.atI_m1_1, WA.atI_m1_2, WA.atI_m1_3, WA.atI_m1_4, WA.cut_m1_2, WA.cut_m1_3, WA.us_same, WA.aYes, WA.KO_some, WA.KO_none, WA.KV_some, WA.KB_bl, WA.KI_int, WA.K1_one, WA.K2_two, WA.lsO_lst, ↓WA.aVar_, ↓WA.aTest_, ↓WA.aAndV_, ↓WA.aOrV_, ↓WA.aNotV_, ↓WA.aPart_, ↓WA.aNeg_, ↓WA.aCall_, ↓WA.aCallV_, ↓WA.aOp_, ↓WA.aCB_, ↓WA.aMeth_, ↓WA.aSl_, WA.oI0_, WA.oI_, WA.oSub, WA.oMul, WA.oFdiv, WA.oMod, WA.oPow, WA.oShl, WA.oShr, WA.oBand, WA.oBor, WA.oLt, WA.oLe, WA.oGt, WA.oGe, WA.oAdd_int, WA.oAdd_str, WA.oAdd_tup, WA.oAdd_ref, WA.oEq_int, WA.oEq_str, WA.oEq_bl, WA.oEq_tup, WA.oEq_ref, WA.oNe_int, WA.oNe_str, WA.oNe_bl, WA.oNe_tup, WA.oNe_ref, WA.oIn_tup, WA.oIn_fl, WA.oIn_ref, WA.oIn_str, WA.oIx_tup, WA.oIx_fl, WA.oIx_ref, WA.oIx_str, WA.sl_tup, WA.sl_fl, WA.sl_ref, WA.sl_str, WA.seqOf_tup, WA.seqOf_fl, WA.seqOf_ref, WA.cLen_str, WA.cLen_tup, WA.cLen_fl, WA.cLen_ref, WA.cList_, WA.cTuple_, WA.cInt_int, WA.cInt_bl, WA.isLst_ref, WA.mAppend, WA.mExtend, WA.mPop_0, WA.mPop_1, ↓WA.agTup_, ↓WA.agCons_, WA.Tg_, WA.Tc_, ↓WA.agSub_, WA.Sb_, WA.itOf_tup, WA.itOf_fl, WA.itOf_ref, ↓WA.aiSeq_, ↓WA.aiEnum_, ↓WA.aiRng1_, ↓WA.aiRng2_, ↓WA.aFor_, ↓WA.aLc_, ↓WA.aCut_, ↓WA.aWhile_, WA.ixN_1_0, WA.ixN_5_0, WA.ixN_5_1, WA.ixN_5_2, WA.ixN_5_3, WA.ixN_5_4,
  List.all_cons, List.all_nil, List.any_cons, List.any_nil, Bool.and_self, Bool.or_self, Bool.or_true, Bool.true_or, Bool.or_false, Bool.false_or, Bool.and_true, Bool.true_and, Bool.and_false, Bool.false_and, String.reduceBEq, List.getElem?_cons_zero, List.getElem?_cons_succ, List.set_cons_zero, List.set_cons_succ, List.length_cons, List.length_nil, List.map_cons, List.map_nil, List.cons_append, List.nil_append, List.append_nil, List.replicate_zero, List.replicate_succ, List.reduceReplicate, Nat.reduceAdd, Nat.reduceSub, Nat.zero_add, Nat.sub_self, Int.reduceNeg, Int.reduceToNat, String.reduceEq, decide_true, decide_false, decide_eq_true_eq, if_true, if_false, Bool.false_eq_true, reduceCtorEq, PySem.sizeLine_eq, Nat.reduceLeDiff, Nat.reduceLT, true_and, and_true, Bool.not_true, Bool.not_false, reduceIte, eq_self, Option.map_some, implies_true, List.length_map, WA.flat_strs, WA.cut_str2, WA.us_us, WA.us_ne, ne_eq, not_false_eq_true, *]))
namespace K77
open PySem L2 WA
section
variable {P : Program} {w : World} {K : PySem.W.Frag} {mg : Str → Option Value} {base : Heap}
abbrev s_law_begin : Stmt := topS 11
abbrev N_law_begin : List Str := ["script"]
theorem sc_law_begin : FnScope N_law_begin ["script"] (defScope s_law_begin) := ⟨rfl, rfl, rfl, by decide +kernel, rfl, by decide +kernel, by decide +kernel⟩

abbrev s_law_draw : Stmt := topS 12
abbrev N_law_draw : List Str := ["d", "many", "cell", "number", "digit", "mixed"]
theorem sc_law_draw : FnScope N_law_draw ["d", "many"] (defScope s_law_draw) := ⟨rfl, rfl, rfl, by decide +kernel, rfl, by decide +kernel, by decide +kernel⟩

abbrev s_law_pick : Stmt := topS 13
abbrev N_law_pick : List Str := ["d", "row"]
theorem sc_law_pick : FnScope N_law_pick ["d", "row"] (defScope s_law_pick) := ⟨rfl, rfl, rfl, by decide +kernel, rfl, by decide +kernel, by decide +kernel⟩

abbrev s_law_rare : Stmt := topS 14
abbrev N_law_rare : List Str := ["d", "many"]
theorem sc_law_rare : FnScope N_law_rare ["d", "many"] (defScope s_law_rare) := ⟨rfl, rfl, rfl, by decide +kernel, rfl, by decide +kernel, by decide +kernel⟩

abbrev s_law_shuffled : Stmt := topS 15
abbrev N_law_shuffled : List Str := ["d", "row", "left", "found", "step"]
theorem sc_law_shuffled : FnScope N_law_shuffled ["d", "row"] (defScope s_law_shuffled) := ⟨rfl, rfl, rfl, by decide +kernel, rfl, by decide +kernel, by decide +kernel⟩

abbrev s_law_pool : Stmt := topS 16
abbrev N_law_pool : List Str := []
theorem sc_law_pool : FnScope N_law_pool [] (defScope s_law_pool) := ⟨rfl, rfl, rfl, by decide +kernel, rfl, by decide +kernel, by decide +kernel⟩

abbrev s_law_number : Stmt := topS 17
abbrev N_law_number : List Str := ["d", "names", "depth", "way", "left"]
theorem sc_law_number : FnScope N_law_number ["d", "names", "depth"] (defScope s_law_number) := ⟨rfl, rfl, rfl, by decide +kernel, rfl, by decide +kernel, by decide +kernel⟩

abbrev s_law_truth : Stmt := topS 18
abbrev N_law_truth : List Str := ["d", "names", "depth", "way", "left"]
theorem sc_law_truth : FnScope N_law_truth ["d", "names", "depth"] (defScope s_law_truth) := ⟨rfl, rfl, rfl, by decide +kernel, rfl, by decide +kernel, by decide +kernel⟩

def sp_begin : ASp := fun xs S Q => ∃ ns : List Int, xs = [.fl (ns.map .int)] ∧ ns.length ≤ 63 ∧ ∀ d l S', Dw d l [] S S' → S d = none → S l = none → Q (.ref d) S'
theorem ok_begin {f : Addr} (T : Txt mg) (D : Df K mg "_law_begin" s_law_begin ["script"] f) : Fn P w K mg base 1 "_law_begin" f sp_begin := by
  refine D.ok sc_law_begin (fun xs S Q ⟨ns, h, _⟩ => by rw [h]; rfl) fun cdv A0 outer s0 H E hr => ⟨_,
(ass_one (as_ret (ae_lst (aa_cons ae_int (aa_cons ae_int (aa_cons ae_int (aa_cons ae_int (aa_cons (ae_callTy ca_list (by rfl) T.b_list (by decide +kernel) (aa_cons (ae_slice (ae_var 0) ap_none (ap_some ae_int)) aa_nil)) aa_nil)))))))), ?_⟩
  rintro xs S Q ⟨ns, rfl, hn, q⟩
  walk_at "wb"
  intro p hp l hl d hd
  have e : cut (ns.map A.int) none (some 63) = (ns.take 63).map A.int := by
    rw [show (63 : Int) = ((63 : Nat) : Int) from rfl, cut_to, List.map_take]
  rw [e] at hl hd ⊢
  have l1 := Le.new (m := MO.lst ((ns.take 63).map A.int)) hp
  have l2 := Le.new (m := MO.lst ((ns.take 63).map A.int)) hl
  have l3 := Le.new (m := MO.lst [A.int 0, A.int 0, A.int 0, A.int 0, A.ref l]) hd
  have hld : l ≠ d := sne us_same hd
  refine Ret.at (q d l _ ⟨⟨0, 0, 0, 0, ns.take 63, us_same, ?_, by omega, by omega, by omega, by omega, by omega, ?_, hld.symm⟩, ((l1.trans l2).trans l3).fr _⟩ ((l1.trans l2).none hd) (l1.none hl))
  · rw [us_ne hld, us_same]
  · rw [List.length_take]; omega
def sp_draw : ASp := fun xs S Q => ∃ (d l : Addr) (many : Int), xs = [.ref d, .int many] ∧ Dr d l S ∧ many ≤ 1000000 ∧ ∀ (r : Int) S', 0 ≤ r → r < many ∨ r = 0 → Dw d l [d] S S' → Q (.int r) S'
theorem ok_draw {f : Addr} (T : Txt mg) (D : Df K mg "_law_draw" s_law_draw ["d", "many"] f) : Fn P w K mg base 1 "_law_draw" f sp_draw := by
  refine D.ok sc_law_draw (fun xs S Q ⟨d, l, m, h, _⟩ => by rw [h]; rfl) fun cdv A0 outer s0 H E hr => ⟨_,
(ass_cons (as_if (at_cmp oa_lt (ae_var 1) ae_int)
  (ass_one (as_ret ae_int))
  ass_nil)
  (ass_cut (as_if (at_w (aw_and (at_cmp (oa_eq hr.units) (ae_ix ia_seq (ae_var 0) ae_int) ae_int) (aw_and1 (at_cmp oa_lt (ae_ix ia_seq (ae_var 0) ae_int) (ae_callB ca_len (by rfl) T.b_len PySem.boot_len (aa_cons (ae_ix ia_seq (ae_var 0) ae_int) aa_nil))))))
  (ass_cons (as_set 2 sc_law_draw.nd (ae_ix ia_seq (ae_ix ia_seq (ae_var 0) ae_int) (ae_ix ia_seq (ae_var 0) ae_int)))
  (ass_cons (as_asg (ws := []) (ae_op oa_add (ae_ix ia_seq (ae_var 0) ae_int) ae_int) (ag_sub (ae_var 0) ae_int))
  (ass_cons (as_set 3 sc_law_draw.nd (ae_if (at_cmp oa_ge (ae_var 2) ae_int) (ae_var 2) (ae_neg (ae_var 2))))
  (ass_one (as_if (at_cmp oa_ge (ae_var 3) (ae_op oa_pow ae_int ae_int))
  (ass_one (as_asg (ws := []) (ae_var 3) (ag_sub (ae_var 0) ae_int)))
  (ass_one (as_asg (ws := []) (ae_op oa_mod (ae_callTy ca_int (by rfl) T.b_int (by decide +kernel) (aa_cons (ae_op oa_add (ae_op oa_add (ae_op oa_mul (ae_ix ia_seq (ae_var 0) ae_int) ae_int) (ae_op oa_mul (ae_var 3) ae_int)) ae_int) aa_nil)) ae_int) (ag_sub (ae_var 0) ae_int))))))))
  ass_nil)
  (ass_cons (as_if (at_cmp oa_gt (ae_ix ia_seq (ae_var 0) ae_int) ae_int)
  (ass_cons (as_set 4 sc_law_draw.nd (ae_op oa_mod (ae_callTy ca_int (by rfl) T.b_int (by decide +kernel) (aa_cons (ae_ix ia_seq (ae_var 0) ae_int) aa_nil)) (ae_var 1)))
  (ass_cons (as_asg (ws := []) (ae_op oa_fdiv (ae_ix ia_seq (ae_var 0) ae_int) (ae_var 1)) (ag_sub (ae_var 0) ae_int))
  (ass_one (as_ret (ae_var 4)))))
  ass_nil)
  (ass_cons (as_asg (ws := []) (ae_op oa_add (ae_ix ia_seq (ae_var 0) ae_int) ae_int) (ag_sub (ae_var 0) ae_int))
  (ass_cons (as_asg (ws := []) (ae_op oa_mod (ae_callTy ca_int (by rfl) T.b_int (by decide +kernel) (aa_cons (ae_op oa_add (ae_op oa_add (ae_op oa_mul (ae_ix ia_seq (ae_var 0) ae_int) ae_int) (ae_op oa_mul (ae_ix ia_seq (ae_var 0) ae_int) ae_int)) ae_int) aa_nil)) ae_int) (ag_sub (ae_var 0) ae_int))
  (ass_cons (as_set 5 sc_law_draw.nd (ae_op oa_mod (ae_callTy ca_int (by rfl) T.b_int (by decide +kernel) (aa_cons (ae_op oa_add (ae_op oa_mul (ae_ix ia_seq (ae_var 0) ae_int) (ae_ix ia_seq (ae_var 0) ae_int)) (ae_ix ia_seq (ae_var 0) ae_int)) aa_nil)) ae_int))
  (ass_one (as_ret (ae_op oa_mod (ae_callTy ca_int (by rfl) T.b_int (by decide +kernel) (aa_cons (ae_op oa_fdiv (ae_var 5) ae_int) aa_nil)) (ae_var 1)))))))))), ?_⟩
  rintro xs S Q ⟨d, l, many, rfl, hd, hm, q⟩
  have ⟨a, b, c, e, ns, h1, h2, h3, h4, h5, h6, h7, h8, h9⟩ := hd.ex
  walk_at "wh"
  by_cases hm2 : many < 2
  · rw [if_pos hm2]
    exact Ret.at (q 0 S (Int.le_refl 0) (.inr rfl) (Dw.refl hd _))
  rw [if_neg hm2]
  have hm0 : 0 < many := by omega
  have put : ∀ (a b c e : Int), 0 ≤ a → a < 2147483647 → 0 ≤ b → 0 ≤ c → 0 ≤ e → Dw d l [d] S (us S d (.lst [.int a, .int b, .int c, .int e, .ref l])) := fun a b c e k1 k2 k3 k4 k5 =>
    ⟨⟨a, b, c, e, ns, us_same, by rw [us_ne h9.symm]; exact h2, k1, k2, k3, k4, k5, h8, h9⟩, (Fr.refl _ S).put (by simp)⟩
  refine CutH_of (fun env' S' => ∃ x y, env' = [some (.ref d), some (.int many), x, y, none, none] ∧ Dw d l [d] S S') ?_ ?_
  · walk_at "wh"
    by_cases hb : b = 0
    · rw [if_pos hb]
      by_cases hc : c < (ns.length : Int)
      · rw [if_pos hc]
        obtain ⟨cn, rfl⟩ := Int.eq_ofNat_of_zero_le h6
        obtain ⟨z, hz⟩ := get_of_lt (l := ns) (j := cn) (by omega)
        have hat : atI (ns.map A.int) (cn : Int) = some (.int z) := atI_nat (by rw [List.getElem?_map, hz]; rfl)
        walk_at "wh"
        have hm1 : ∀ z : Int, 0 ≤ z % 2147483647 ∧ z % 2147483647 < 2147483647 := fun z => ⟨Int.emod_nonneg _ (by omega), Int.emod_lt_of_pos _ (by omega)⟩
        split
        · refine ⟨⟨by omega, by omega, by omega⟩, ?_⟩
          split
          · exact ⟨_, _, rfl, put _ _ _ _ h3 h4 (by omega) (by omega) h7⟩
          · exact ⟨.inr (by decide), .inr (by decide), by omega, _, _, rfl, put _ _ _ _ (hm1 _).1 (hm1 _).2 (by omega) (by omega) h7⟩
        · refine ⟨⟨by omega, by omega, by omega⟩, ?_⟩
          split
          · exact ⟨_, _, rfl, put _ _ _ _ h3 h4 (by omega) (by omega) h7⟩
          · exact ⟨.inr (by decide), .inr (by decide), by omega, _, _, rfl, put _ _ _ _ (hm1 _).1 (hm1 _).2 (by omega) (by omega) h7⟩
      · rw [if_neg hc]
        exact ⟨_, _, rfl, Dw.refl hd _⟩
    · rw [if_neg hb]
      exact ⟨_, _, rfl, Dw.refl hd _⟩
  · rintro env' S' ⟨x, y, rfl, hw⟩
    have ⟨a, b, c, e, ns', k1, k2, k3, k4, k5, k6, k7, k8, k9⟩ := hw.dr.ex
    walk_at "wh"
    have put2 : ∀ (a b c e : Int), 0 ≤ a → a < 2147483647 → 0 ≤ b → 0 ≤ c → 0 ≤ e → Dw d l [d] S (us S' d (.lst [.int a, .int b, .int c, .int e, .ref l])) := fun a b c e j1 j2 j3 j4 j5 =>
      ⟨⟨a, b, c, e, ns', us_same, by rw [us_ne h9.symm]; exact k2, j1, j2, j3, j4, j5, k8, h9⟩, hw.fr.put (by simp)⟩
    have hmod : ∀ z : Int, 0 ≤ z % many ∧ z % many < many := fun z => ⟨Int.emod_nonneg _ (by omega), Int.emod_lt_of_pos _ hm0⟩
    have hm1 : ∀ z : Int, 0 ≤ z % 2147483647 ∧ z % 2147483647 < 2147483647 := fun z => ⟨Int.emod_nonneg _ (by omega), Int.emod_lt_of_pos _ (by omega)⟩
    split
    · exact ⟨⟨hm0, by omega⟩, Ret.at (q _ _ (hmod _).1 (.inl (hmod _).2) (put2 _ _ _ _ k3 k4 (Int.ediv_nonneg k5 (by omega)) k6 k7))⟩
    · have hz := hm1 (a * 48271 + (e + 1) * 7919 + 11)
      refine ⟨.inr (by decide), .inr (by decide), by omega, .inl ⟨by omega, by omega⟩, by omega, ⟨by omega, by omega⟩, Ret.at (q _ _ (hmod _).1 (.inl (hmod _).2) (put2 _ _ _ _ hz.1 hz.2 k5 k6 (by omega)))⟩
def sp_pick : ASp := fun xs S Q => ∃ (d l : Addr) (row : A) (items : List A), xs = [.ref d, row] ∧ Dr d l S ∧ Sq [d] S row items ∧ items ≠ [] ∧ items.length ≤ 1000000 ∧ ∀ x S', x ∈ items → Dw d l [d] S S' → Q x S'
theorem ok_pick {f fd : Addr} (T : Txt mg) (D : Df K mg "_law_pick" s_law_pick ["d", "row"] f) (F_law_draw : Fn P w K mg base 1 "_law_draw" fd sp_draw) : Fn P w K mg base 2 "_law_pick" f sp_pick := by
  refine D.ok sc_law_pick (fun xs S Q ⟨d, l, row, items, h, _⟩ => by rw [h]; rfl) fun cdv A0 outer s0 H E hr => ⟨_,
(ass_one (as_ret (ae_ix ia_seq (ae_var 1) (ae_call F_law_draw hr (by omega) (by rfl) (aa_cons (ae_var 0) (aa_cons (ae_callB ca_len (by rfl) T.b_len PySem.boot_len (aa_cons (ae_var 1) aa_nil)) aa_nil)))))), ?_⟩
  rintro xs S Q ⟨d, l, row, items, rfl, hd, hs, hne, hlen, q⟩
  have hpos : 0 < items.length := List.length_pos_iff.mpr hne
  have key : ∀ (r : Int) S', 0 ≤ r → r < (items.length : Int) ∨ r = 0 → Dw d l [d] S S' → ∃ z, atI items r = some z ∧ Q z S' := fun r S' h1 h2 hw => by
    obtain ⟨rn, rfl⟩ := Int.eq_ofNat_of_zero_le h1
    obtain ⟨z, hz⟩ := get_of_lt (l := items) (j := rn) (by omega)
    exact ⟨z, atI_nat hz, q z S' (List.mem_of_getElem? hz) hw⟩
  rcases hs with rfl | ⟨a, rfl, h4, h3⟩
  · walk_at "wh"
    refine Cal_of ⟨d, l, _, rfl, hd, by omega, fun r S' h1 h2 hw => ?_⟩
    obtain ⟨z, hz, hq⟩ := key r S' h1 h2 hw
    walk_at "wh"
    exact Ret.at hq
  · walk_at "wh"
    refine Cal_of ⟨d, l, _, rfl, hd, by omega, fun r S' h1 h2 hw => ?_⟩
    obtain ⟨z, hz, hq⟩ := key r S' h1 h2 hw
    have e := hw.at h4 h3
    walk_at "wh"
    exact Ret.at hq
def sp_rare : ASp := fun xs S Q => ∃ (d l : Addr) (many : Int), xs = [.ref d, .int many] ∧ Dr d l S ∧ many ≤ 1000000 ∧ ∀ b S', Dw d l [d] S S' → Q (.bl b) S'
theorem ok_rare {f fd : Addr} (T : Txt mg) (D : Df K mg "_law_rare" s_law_rare ["d", "many"] f) (F_law_draw : Fn P w K mg base 1 "_law_draw" fd sp_draw) : Fn P w K mg base 2 "_law_rare" f sp_rare := by
  refine D.ok sc_law_rare (fun xs S Q ⟨d, l, m, h, _⟩ => by rw [h]; rfl) fun cdv A0 outer s0 H E hr => ⟨_,
(ass_one (as_ret (ae_cmp (oa_eq hr.units) (ae_call F_law_draw hr (by omega) (by rfl) (aa_cons (ae_var 0) (aa_cons (ae_var 1) aa_nil))) (ae_op oa_fdiv (ae_var 1) ae_int)))), ?_⟩
  rintro xs S Q ⟨d, l, many, rfl, hd, hm, q⟩
  walk_at "wb"
  refine Cal_of ⟨d, l, _, rfl, hd, hm, fun r S' h1 h2 hw => ?_⟩
  walk_at "wb"
  exact ⟨⟨by omega, by omega⟩, Ret.at (q _ S' hw)⟩
def sp_shuffled : ASp := fun xs S Q => ∃ (d l : Addr) (row : A) (items : List A), xs = [.ref d, row] ∧ Dr d l S ∧ Sq [d] S row items ∧ items.length ≤ 1000000 ∧ ∀ p ys S', ys.Perm items → S p = none → S' p = some (.lst ys) → Dw d l [d] S S' → Q (.ref p) S'
theorem ok_shuffled {f fd : Addr} (T : Txt mg) (D : Df K mg "_law_shuffled" s_law_shuffled ["d", "row"] f) (F_law_draw : Fn P w K mg base 1 "_law_draw" fd sp_draw) : Fn P w K mg base 2 "_law_shuffled" f sp_shuffled := by
  refine D.ok sc_law_shuffled (fun xs S Q ⟨d, l, row, items, h, _⟩ => by rw [h]; rfl) fun cdv A0 outer s0 H E hr => ⟨_,
(ass_cons (as_set 2 sc_law_shuffled.nd (ae_callTy ca_list (by rfl) T.b_list (by decide +kernel) (aa_cons (ae_var 1) aa_nil)))
  (ass_cons (as_set 3 sc_law_shuffled.nd (ae_lst aa_nil))
  (ass_cons (as_for (ws := [4]) PassesOwn.never rfl (ai_range1 (by rfl) T.b_range (aa_cons (ae_callB ca_len (by rfl) T.b_len PySem.boot_len (aa_cons (ae_var 1) aa_nil)) aa_nil)) (ag_name 4 sc_law_shuffled.nd)
  (ass_one (as_expr (ae_lm PySem.F.slot_list_append PySem.F.type_list_append ma_append (ae_var 3) (aa_cons (ae_lm PySem.F.slot_list_pop PySem.F.type_list_pop ma_pop (ae_var 2) (aa_cons (ae_call F_law_draw hr (by omega) (by rfl) (aa_cons (ae_var 0) (aa_cons (ae_callB ca_len (by rfl) T.b_len PySem.boot_len (aa_cons (ae_var 2) aa_nil)) aa_nil))) aa_nil)) aa_nil)))))
  (ass_one (as_ret (ae_var 3)))))), ?_⟩
  rintro xs S Q ⟨d, l, row, items, rfl, hd, hs, hlen, q⟩
  have hsq := hs.seq
  walk_at "wh"
  intro L hL F hF
  have f1 : Dw d l [d] S (us (us S L (.lst items)) F (.lst [])) := ((Dw.refl hd _).new hL).new hF
  have hLF : L ≠ F := sne us_same hF
  have hF0 : S F = none := (Le.new hL).none hF
  rw [(hs.fr f1.fr).len]
  walk_at "wb"
  refine ⟨by omega, by omega, LoopH_of (for_R0 (fun i env S' => ∃ x ls fs, env = [some (.ref d), some row, some (.ref L), some (.ref F), x] ∧ S' L = some (.lst ls) ∧ S' F = some (.lst fs) ∧ (fs ++ ls).Perm items ∧ ls.length + i = items.length ∧ Dw d l [d] S S') ⟨none, items, [], rfl, by rw [us_ne hLF, us_same], us_same, .refl _, rfl, f1⟩ ?_ ?_)⟩
  · rintro i env S1 hi ⟨x, ls, fs, rfl, e1, e2, hp, hl, hw⟩
    have hfl : fs.length = i := by
      have := hp.length_eq
      rw [List.length_append] at this
      omega
    walk_at "wh"
    refine Cal_of ⟨d, l, _, rfl, hw.dr, by omega, fun r S' h1 h2 hw' => ?_⟩
    obtain ⟨rn, rfl⟩ := Int.eq_ofNat_of_zero_le h1
    have hrn : rn < ls.length := by omega
    obtain ⟨z, hz⟩ := get_of_lt (l := ls) (j := rn) hrn
    have hLd : L ≠ d := ((hd.nd hL)).symm
    have hFd : F ≠ d := ((hd.nd hF0)).symm
    have e3 := hw'.at (by simp [hLd]) e1
    have e4 := hw'.at (by simp [hFd]) e2
    have hix : seqIndex? (rn : Int) ls.length = some rn := seqIndex_nat hrn
    have hFL := hLF.symm
    walk_at "wh"
    have hpe := erase_perm hz
    refine ⟨by omega, by omega, by omega, some (.int (i : Nat)), ls.eraseIdx rn, fs ++ [z], rfl, rfl, rfl, ?_, ?_, ?_⟩
    · have h3 : (fs ++ [z] ++ ls.eraseIdx rn).Perm (fs ++ ls) := by
        rw [List.append_assoc]
        exact hpe.append_left fs
      exact h3.trans hp
    · have := List.length_eraseIdx_of_lt hrn
      omega
    · exact ((hw.trans hw').own hd hL).own hd hF0
  · rintro env S1 ⟨x, ls, fs, rfl, e1, e2, hp, hl, hw⟩
    have : ls = [] := List.length_eq_zero_iff.mp (by omega)
    subst this
    walk_at "wb"
    exact Ret.at (q F fs S1 (by simpa using hp) hF0 e2 hw)
def poolM : List Str := ["a", "b", "x", "y", "go1", "seat", "door7", "k", "turn", "flag0", "mailbox", "q2", "w", "clerk", "team", "p9", "stock", "n1", "alpha", "zz", "u3", "hall", "desk0", "r", "left", "right", "inbox", "t", "v8", "bell", "key1", "cup", "m", "site", "yard42", "h", "j5", "lamp", "oneeight", "abcdefgh"].map Str.ofString
theorem poolM_len : poolM.length = 40 := rfl
def sp_pool : ASp := fun xs S Q => xs = [] ∧ Q (.tup (poolM.map .str)) S
theorem ok_pool {f : Addr} (T : Txt mg) (D : Df K mg "_law_pool" s_law_pool [] f) : Fn P w K mg base 1 "_law_pool" f sp_pool := by
  refine D.ok sc_law_pool (fun xs S Q ⟨h, _⟩ => by rw [h]; rfl) fun cdv A0 outer s0 H E hr => ⟨_,
(ass_one (as_ret (ae_tup (aa_cons ae_str (aa_cons ae_str (aa_cons ae_str (aa_cons ae_str (aa_cons ae_str (aa_cons ae_str (aa_cons ae_str (aa_cons ae_str (aa_cons ae_str (aa_cons ae_str (aa_cons ae_str (aa_cons ae_str (aa_cons ae_str (aa_cons ae_str (aa_cons ae_str (aa_cons ae_str (aa_cons ae_str (aa_cons ae_str (aa_cons ae_str (aa_cons ae_str (aa_cons ae_str (aa_cons ae_str (aa_cons ae_str (aa_cons ae_str (aa_cons ae_str (aa_cons ae_str (aa_cons ae_str (aa_cons ae_str (aa_cons ae_str (aa_cons ae_str (aa_cons ae_str (aa_cons ae_str (aa_cons ae_str (aa_cons ae_str (aa_cons ae_str (aa_cons ae_str (aa_cons ae_str (aa_cons ae_str (aa_cons ae_str (aa_cons ae_str aa_nil))))))))))))))))))))))))))))))))))))))))))), ?_⟩
  rintro xs S Q ⟨rfl, q⟩
  walk_at "wb"
  exact Ret.at q
def sp_number (N : Nat) : ASp := fun xs S Q => ∃ (n : Nat) (d l : Addr) (row : A) (ns : List Str), n < N ∧ xs = [.ref d, row, .int (n : Nat)] ∧ Dr d l S ∧ Sq [d] S row (ns.map .str) ∧ ns.length ≤ 1000000 ∧ ∀ e S', NumOk ns n e → Dw d l [d] S S' → Q e.enc S'
theorem ok_number_step {f fd fp : Addr} {N : Nat} (T : Txt mg) (D : Df K mg "_law_number" s_law_number ["d", "names", "depth"] f) (F_law_draw : Fn P w K mg base 1 "_law_draw" fd sp_draw) (F_law_pick : Fn P w K mg base 2 "_law_pick" fp sp_pick)
    (F_law_number : Fn P w K mg base (N + 2) "_law_number" f (sp_number N)) : Fn P w K mg base (N + 3) "_law_number" f (sp_number (N + 1)) := by
  refine D.ok sc_law_number (fun xs S Q ⟨n, d, l, row, ns, _, h, _⟩ => by rw [h]; rfl) fun cdv A0 outer s0 H E hr => ⟨_,
(ass_cons (as_set 3 sc_law_number.nd (ae_call F_law_draw hr (by omega) (by rfl) (aa_cons (ae_var 0) (aa_cons ae_int aa_nil))))
  (ass_cons (as_if (at_w (aw_and (at_cmp oa_gt (ae_var 2) ae_int) (aw_and1 (at_cmp oa_gt (ae_var 3) ae_int))))
  (ass_cons (as_set 4 sc_law_number.nd (ae_call F_law_number hr (by omega) (by rfl) (aa_cons (ae_var 0) (aa_cons (ae_var 1) (aa_cons (ae_op oa_sub (ae_var 2) ae_int) aa_nil)))))
  (ass_one (as_ret (ae_tup (aa_cons (ae_call F_law_pick hr (by omega) (by rfl) (aa_cons (ae_var 0) (aa_cons (ae_tup (aa_cons ae_str (aa_cons ae_str (aa_cons ae_str aa_nil)))) aa_nil))) (aa_cons (ae_var 4) (aa_cons (ae_call F_law_number hr (by omega) (by rfl) (aa_cons (ae_var 0) (aa_cons (ae_var 1) (aa_cons (ae_op oa_sub (ae_var 2) ae_int) aa_nil)))) aa_nil)))))))
  ass_nil)
  (ass_cons (as_if (at_w (aw_and (at_cmp oa_gt (ae_var 3) ae_int) (aw_and1 (at_cmp oa_gt (ae_callB ca_len (by rfl) T.b_len PySem.boot_len (aa_cons (ae_var 1) aa_nil)) ae_int))))
  (ass_one (as_ret (ae_tup (aa_cons ae_str (aa_cons (ae_call F_law_pick hr (by omega) (by rfl) (aa_cons (ae_var 0) (aa_cons (ae_var 1) aa_nil))) aa_nil)))))
  ass_nil)
  (ass_one (as_ret (ae_tup (aa_cons ae_str (aa_cons (ae_call F_law_draw hr (by omega) (by rfl) (aa_cons (ae_var 0) (aa_cons ae_int aa_nil))) aa_nil)))))))), ?_⟩
  rintro xs S Q ⟨n, d, l, row, ns, hN, rfl, hd, hs, hlen, q⟩
  walk_at "wh"
  refine Cal_of ⟨d, l, _, rfl, hd, by omega, fun r S1 h1 h2 w1 => ?_⟩
  walk_at "wh"
  have s1 := w1.sq hs
  rw [s1.len]
  refine if_dup ?_ fun hn h3 => ?_
  · walk_at "wb"
    refine if_dup ?_ fun _ h4 => ?_
    · refine Cal_of ⟨d, l, _, rfl, w1.dr, by omega, fun r2 S2 h3 h4 w2 => ?_⟩
      walk_at "wb"
      exact Ret.at (q (.num r2) S2 (.num h3 (by omega)) (w1.trans w2))
    · refine Cal_of ⟨d, l, row, _, rfl, w1.dr, s1, fun e => ?_, by rw [List.length_map]; exact hlen, fun x S2 hx w2 => ?_⟩
      · have e : ns = [] := by simpa using e
        rw [e] at h4
        simp at h4
      · obtain ⟨y, hy, rfl⟩ := List.mem_map.mp hx
        walk_at "wb"
        exact Ret.at (q (.name y) S2 (.name hy) (w1.trans w2))
  · obtain ⟨m, rfl⟩ : ∃ m, n = m + 1 := ⟨n - 1, by omega⟩
    have en : ((m + 1 : Nat) : Int) - 1 = (m : Nat) := by omega
    rw [en]
    refine Cal_of ⟨m, d, l, row, ns, by omega, rfl, w1.dr, s1, hlen, fun e1 S2 n1 w2 => ?_⟩
    walk_at "wh"
    refine Cal_of ⟨d, l, _, _, rfl, w2.dr, .inl rfl, by simp, by simp, fun x S3 hx w3 => ?_⟩
    walk_at "wh"
    refine Cal_of ⟨m, d, l, row, ns, by omega, rfl, w3.dr, w3.sq (w2.sq s1), hlen, fun e2 S4 n2 w4 => ?_⟩
    walk_at "wb"
    have hx : ∃ op, x = .str op ∧ op ∈ [Str.ofString "+", Str.ofString "-", Str.ofString "*"] := by
      simp only [List.mem_cons, List.not_mem_nil, or_false] at hx
      rcases hx with rfl | rfl | rfl
      · exact ⟨_, rfl, by simp⟩
      · exact ⟨_, rfl, by simp⟩
      · exact ⟨_, rfl, by simp⟩
    obtain ⟨op, rfl, hop⟩ := hx
    exact Ret.at (q (.bin op e1 e2) S4 (.bin hop n1 n2) (((w1.trans w2).trans w3).trans w4))
theorem ok_number {f fd fp : Addr} (T : Txt mg) (D : Df K mg "_law_number" s_law_number ["d", "names", "depth"] f) (F_law_draw : Fn P w K mg base 1 "_law_draw" fd sp_draw) (F_law_pick : Fn P w K mg base 2 "_law_pick" fp sp_pick) :
    ∀ N : Nat, Fn P w K mg base (N + 2) "_law_number" f (sp_number N)
  | 0 => (D.never' fun xs S Q ⟨n, _, _, _, _, h, _⟩ => by omega).mono (Nat.zero_le _)
  | N + 1 => ok_number_step T D F_law_draw F_law_pick (ok_number T D F_law_draw F_law_pick N)
def sp_truth (N : Nat) : ASp := fun xs S Q => ∃ (n : Nat) (d l : Addr) (row : A) (ns : List Str), n < N ∧ xs = [.ref d, row, .int (n : Nat)] ∧ Dr d l S ∧ Sq [d] S row (ns.map .str) ∧ ns.length ≤ 1000000 ∧ ∀ e S', TruOk ns n e → Dw d l [d] S S' → Q e.enc S'
theorem ok_truth_step {f fd fp fn : Addr} {N : Nat} (T : Txt mg) (D : Df K mg "_law_truth" s_law_truth ["d", "names", "depth"] f) (F_law_draw : Fn P w K mg base 1 "_law_draw" fd sp_draw) (F_law_pick : Fn P w K mg base 2 "_law_pick" fp sp_pick)
    (F_law_number : Fn P w K mg base 4 "_law_number" fn (sp_number 2)) (F_law_truth : Fn P w K mg base (N + 4) "_law_truth" f (sp_truth N)) : Fn P w K mg base (N + 5) "_law_truth" f (sp_truth (N + 1)) := by
  refine D.ok sc_law_truth (fun xs S Q ⟨n, d, l, row, ns, _, h, _⟩ => by rw [h]; rfl) fun cdv A0 outer s0 H E hr => ⟨_,
(ass_cons (as_set 3 sc_law_truth.nd (ae_call F_law_draw hr (by omega) (by rfl) (aa_cons (ae_var 0) (aa_cons ae_int aa_nil))))
  (ass_cons (as_if (at_w (aw_and (at_cmp oa_gt (ae_var 2) ae_int) (aw_and1 (at_cmp (oa_eq hr.units) (ae_var 3) ae_int))))
  (ass_one (as_ret (ae_tup (aa_cons ae_str (aa_cons (ae_call F_law_truth hr (by omega) (by rfl) (aa_cons (ae_var 0) (aa_cons (ae_var 1) (aa_cons (ae_op oa_sub (ae_var 2) ae_int) aa_nil)))) aa_nil)))))
  ass_nil)
  (ass_cons (as_if (at_w (aw_and (at_cmp oa_gt (ae_var 2) ae_int) (aw_and1 (at_cmp oa_lt (ae_var 3) ae_int))))
  (ass_cons (as_set 4 sc_law_truth.nd (ae_call F_law_truth hr (by omega) (by rfl) (aa_cons (ae_var 0) (aa_cons (ae_var 1) (aa_cons (ae_op oa_sub (ae_var 2) ae_int) aa_nil)))))
  (ass_one (as_ret (ae_tup (aa_cons (ae_if (at_cmp (oa_eq hr.units) (ae_var 3) ae_int) ae_str ae_str) (aa_cons (ae_var 4) (aa_cons (ae_call F_law_truth hr (by omega) (by rfl) (aa_cons (ae_var 0) (aa_cons (ae_var 1) (aa_cons (ae_op oa_sub (ae_var 2) ae_int) aa_nil)))) aa_nil)))))))
  ass_nil)
  (ass_cons (as_set 4 sc_law_truth.nd (ae_call F_law_number hr (by omega) (by rfl) (aa_cons (ae_var 0) (aa_cons (ae_var 1) (aa_cons ae_int aa_nil)))))
  (ass_one (as_ret (ae_tup (aa_cons (ae_call F_law_pick hr (by omega) (by rfl) (aa_cons (ae_var 0) (aa_cons (ae_tup (aa_cons ae_str (aa_cons ae_str (aa_cons ae_str (aa_cons ae_str (aa_cons ae_str (aa_cons ae_str aa_nil))))))) aa_nil))) (aa_cons (ae_var 4) (aa_cons (ae_call F_law_number hr (by omega) (by rfl) (aa_cons (ae_var 0) (aa_cons (ae_var 1) (aa_cons ae_int aa_nil)))) aa_nil)))))))))), ?_⟩
  rintro xs S Q ⟨n, d, l, row, ns, hN, rfl, hd, hs, hlen, q⟩
  walk_at "wh"
  refine Cal_of ⟨d, l, _, rfl, hd, by omega, fun r S1 h1 h2 w1 => ?_⟩
  walk_at "wh"
  have s1 := w1.sq hs
  refine if_dup ?_ fun hn h3 => ?_
  · refine if_dup ?_ fun hn h3 => ?_
    · refine Cal_of ⟨1, d, l, row, ns, by omega, rfl, w1.dr, s1, hlen, fun e1 S2 n1 w2 => ?_⟩
      walk_at "wb"
      refine Cal_of ⟨d, l, _, _, rfl, w2.dr, .inl rfl, by simp, by simp, fun x S3 hx w3 => ?_⟩
      walk_at "wb"
      refine Cal_of ⟨0, d, l, row, ns, by omega, rfl, w3.dr, w3.sq (w2.sq s1), hlen, fun e2 S4 n2 w4 => ?_⟩
      walk_at "wb"
      have hx : ∃ op, x = .str op ∧ op ∈ [Str.ofString "=", Str.ofString "!=", Str.ofString "<", Str.ofString "<=", Str.ofString ">", Str.ofString ">="] := by
        simp only [List.mem_cons, List.not_mem_nil, or_false] at hx
        rcases hx with rfl | rfl | rfl | rfl | rfl | rfl <;> exact ⟨_, rfl, by simp⟩
      obtain ⟨op, rfl, hop⟩ := hx
      exact Ret.at (q (.bin op e1 e2) S4 (.cmp hop n1 n2) (((w1.trans w2).trans w3).trans w4))
    · obtain ⟨m, rfl⟩ : ∃ m, n = m + 1 := ⟨n - 1, by omega⟩
      have en : ((m + 1 : Nat) : Int) - 1 = (m : Nat) := by omega
      rw [en]
      refine Cal_of ⟨m, d, l, row, ns, by omega, rfl, w1.dr, s1, hlen, fun e1 S2 n1 w2 => ?_⟩
      walk_at "wh"
      split
      · refine Cal_of ⟨m, d, l, row, ns, by omega, rfl, w2.dr, w2.sq s1, hlen, fun e2 S3 n2 w3 => ?_⟩
        walk_at "wb"
        exact Ret.at (q (.bin _ e1 e2) S3 (.bin (by simp) n1 n2) ((w1.trans w2).trans w3))
      · refine Cal_of ⟨m, d, l, row, ns, by omega, rfl, w2.dr, w2.sq s1, hlen, fun e2 S3 n2 w3 => ?_⟩
        walk_at "wb"
        exact Ret.at (q (.bin _ e1 e2) S3 (.bin (by simp) n1 n2) ((w1.trans w2).trans w3))
  · obtain ⟨m, rfl⟩ : ∃ m, n = m + 1 := ⟨n - 1, by omega⟩
    have en : ((m + 1 : Nat) : Int) - 1 = (m : Nat) := by omega
    rw [en]
    refine Cal_of ⟨m, d, l, row, ns, by omega, rfl, w1.dr, s1, hlen, fun e1 S2 n1 w2 => ?_⟩
    walk_at "wb"
    exact Ret.at (q (.not e1) S2 (.not n1) (w1.trans w2))
theorem ok_truth {f fd fp fn : Addr} (T : Txt mg) (D : Df K mg "_law_truth" s_law_truth ["d", "names", "depth"] f) (F_law_draw : Fn P w K mg base 1 "_law_draw" fd sp_draw) (F_law_pick : Fn P w K mg base 2 "_law_pick" fp sp_pick) (F_law_number : Fn P w K mg base 4 "_law_number" fn (sp_number 2)) :
    ∀ N : Nat, Fn P w K mg base (N + 4) "_law_truth" f (sp_truth N)
  | 0 => (D.never' fun xs S Q ⟨n, _, _, _, _, h, _⟩ => by omega).mono (Nat.zero_le _)
  | N + 1 => ok_truth_step T D F_law_draw F_law_pick F_law_number (ok_truth T D F_law_draw F_law_pick F_law_number N)
end
end K77

set_option Elab.async false
set_option maxRecDepth 100000
set_option maxHeartbeats 8000000
set_option linter.all false
namespace K77
open PySem L2 WA
section
variable {P : Program} {w : World} {K : PySem.W.Frag} {mg : Str → Option Value} {base : Heap}
abbrev s_law_section : Stmt := topS 19
abbrev N_law_section : List Str := ["d", "world", "budget", "held", "lock", "free", "inner"]
theorem sc_law_section : FnScope N_law_section ["d", "world", "budget", "held"] (defScope s_law_section) := ⟨rfl, rfl, rfl, by decide +kernel, rfl, by decide +kernel, by decide +kernel⟩

abbrev s_law_nested : Stmt := topS 20
abbrev N_law_nested : List Str := ["d", "world", "budget", "depth", "held", "way", "truth", "inner", "other"]
theorem sc_law_nested : FnScope N_law_nested ["d", "world", "budget", "depth", "held", "way"] (defScope s_law_nested) := ⟨rfl, rfl, rfl, by decide +kernel, rfl, by decide +kernel, by decide +kernel⟩

abbrev s_law_statement : Stmt := topS 21
abbrev N_law_statement : List Str := ["d", "world", "budget", "depth", "held", "way", "names", "store"]
theorem sc_law_statement : FnScope N_law_statement ["d", "world", "budget", "depth", "held"] (defScope s_law_statement) := ⟨rfl, rfl, rfl, by decide +kernel, rfl, by decide +kernel, by decide +kernel⟩

abbrev s_law_rows : Stmt := topS 22
abbrev N_law_rows : List Str := ["d", "world", "budget", "many", "depth", "held", "found", "step"]
theorem sc_law_rows : FnScope N_law_rows ["d", "world", "budget", "many", "depth", "held"] (defScope s_law_rows) := ⟨rfl, rfl, rfl, by decide +kernel, rfl, by decide +kernel, by decide +kernel⟩

/-- the row of a piece: what it is told, what it promises -/
def sp_statement (N : Int) : ASp := fun xs S Q => ∃ (C : Gc) (d l w b m nm h : Addr) (s dep bv : Int) (ms hs : List Str), xs = [.ref d, .ref w, .ref b, .int dep, .ref h] ∧ Wl C d l w b m nm s S bv ms ∧ Hd d b m h S hs ∧ 1 ≤ bv ∧ bv ≤ N ∧ (hs.length : Int) + bv ≤ 100 ∧
  ∀ ls S', Go C d l w b m nm s S bv ms 1 0 ls S' → Q (encB ls) S'
def sp_section (N : Int) : ASp := fun xs S Q => ∃ (C : Gc) (d l w b m nm h : Addr) (s bv : Int) (ms hs : List Str), xs = [.ref d, .ref w, .ref b, .ref h] ∧ Wl C d l w b m nm s S bv ms ∧ Hd d b m h S hs ∧ 0 ≤ bv ∧ bv ≤ N ∧ (hs.length : Int) + bv ≤ 100 ∧
  ∀ ls S', Go C d l w b m nm s S bv ms 0 1 ls S' → Q (encB ls) S'
def sp_rows (N : Int) : ASp := fun xs S Q => ∃ (C : Gc) (d l w b m nm h : Addr) (s dep bv many : Int) (ms hs : List Str), xs = [.ref d, .ref w, .ref b, .int many, .int dep, .ref h] ∧ Wl C d l w b m nm s S bv ms ∧ Hd d b m h S hs ∧ 0 ≤ bv ∧ bv ≤ N ∧ 0 ≤ many ∧ many ≤ 100 ∧ (hs.length : Int) + bv ≤ 100 ∧
  ∀ ls S', Go C d l w b m nm s S bv ms 0 0 ls S' → Q (encB ls) S'
def sp_nested (N : Int) : ASp := fun xs S Q => ∃ (C : Gc) (d l w b m nm h : Addr) (s dep bv way : Int) (ms hs : List Str), xs = [.ref d, .ref w, .ref b, .int dep, .ref h, .int way] ∧ Wl C d l w b m nm s S bv ms ∧ Hd d b m h S hs ∧ 1 ≤ bv ∧ bv ≤ N ∧ (hs.length : Int) + bv ≤ 100 ∧
  ∀ x S', Go C d l w b m nm s S bv ms 0 1 [x] S' → Q x.enc S'
theorem ok_section {f fd fp fs : Addr} {k : Nat} {N : Int} (T : Txt mg) (D : Df K mg "_law_section" s_law_section ["d", "world", "budget", "held"] f) (F_law_draw : Fn P w K mg base 1 "_law_draw" fd sp_draw) (F_law_pick : Fn P w K mg base 2 "_law_pick" fp sp_pick)
    (F_law_statement : Fn P w K mg base (k + 2) "_law_statement" fs (sp_statement N)) : Fn P w K mg base (k + 3) "_law_section" f (sp_section (N + 1)) := by
  refine D.ok sc_law_section (fun xs S Q ⟨C, d, l, w, b, m, nm, h, s, bv, ms, hs, e, _⟩ => by rw [e]; rfl) fun cdv A0 outer s0 H E hr => ⟨_,
(ass_cons (as_setLc 5 (own := [("lock", 4)]) rfl sc_law_section.nd rfl rfl (sw_true rfl rfl rfl (by decide +kernel)) (ai_seq (ae_ix ia_seq (ae_var 1) ae_int)) (blkOk_by (own := [("lock", 4)]) (N := N_law_section) (sc := defScope s_law_section) (by decide +kernel)) (fun _ _ _ _ _ => (ag_name 4 sc_law_section.nd)) (fun _ _ _ _ _ => (ats_one (at_cmp oa_notIn (ae_var 4) (ae_var 3)))) (fun _ _ _ _ _ => (ae_var 4)))
  (ass_cons (as_if (at_w (aw_or (at_cmp (oa_eq hr.units) (ae_callB ca_len (by rfl) T.b_len PySem.boot_len (aa_cons (ae_var 5) aa_nil)) ae_int) (aw_or1 (at_cmp oa_lt (ae_ix ia_seq (ae_var 2) ae_int) ae_int))))
  (ass_one (as_ret (ae_tup (aa_cons (ae_tup (aa_cons ae_str aa_nil)) aa_nil))))
  ass_nil)
  (ass_cons (as_asg (ws := []) (ae_op oa_sub (ae_ix ia_seq (ae_var 2) ae_int) ae_int) (ag_sub (ae_var 2) ae_int))
  (ass_cons (as_set 4 sc_law_section.nd (ae_call F_law_pick hr (by omega) (by rfl) (aa_cons (ae_var 0) (aa_cons (ae_var 5) aa_nil))))
  (ass_cons (as_set 6 sc_law_section.nd (ae_tup aa_nil))
  (ass_cut (as_if (at_cmp oa_gt (ae_ix ia_seq (ae_var 2) ae_int) ae_int)
  (ass_one (as_set 6 sc_law_section.nd (ae_call F_law_statement hr (by omega) (by rfl) (aa_cons (ae_var 0) (aa_cons (ae_var 1) (aa_cons (ae_var 2) (aa_cons ae_int (aa_cons (ae_op oa_add (ae_var 3) (ae_lst (aa_cons (ae_var 4) aa_nil))) aa_nil))))))))
  ass_nil)
  (ass_one (as_ret (ae_op oa_add (ae_op oa_add (ae_tup (aa_cons (ae_tup (aa_cons ae_str (aa_cons (ae_var 4) aa_nil))) aa_nil)) (ae_var 6)) (ae_tup (aa_cons (ae_tup (aa_cons ae_str (aa_cons (ae_var 4) aa_nil))) aa_nil))))))))))), ?_⟩
  rintro xs S Q ⟨C, d, l, w, b, m, nm, h, s, bv, ms, hs, rfl, g, hh, h0, hN, hlen, q⟩
  obtain ⟨bx, sts, ew, hsl, hst⟩ := g.ew
  have eb := g.eb
  walk_at "wh"
  intro F hF
  refine LcH_of (lc_filtBy (b := fun x => !inL (hs.map .str) x) (f := fun x => x) (fun _ _ _ => rfl) (by have := g.llen; simp only [List.length_map]; omega) hF (fun x S' R hx le r => ?_) (fun x S' Qx hx le r => ?_) ?_)
  · obtain ⟨y, hy, rfl⟩ := List.mem_map.mp hx
    have eh := le _ _ hh.eh
    walk_at "wh"
  · walk_at "wb"
    exact r
  obtain ⟨fr, efr, hfr, lfr⟩ := filter_strs (fun x => !inL (hs.map .str) x) C.locks
  rw [efr]
  have hFb : b ≠ F := sne eb hF
  have g1 := g.new (o := .lst (fr.map .str)) hF
  have eF : us S F (.lst (fr.map .str)) F = some (.lst (fr.map .str)) := us_same
  generalize hS1 : us S F (.lst (fr.map .str)) = S1 at g1 eF ⊢
  have f1 : Fr [d, b, m] S S1 := by rw [← hS1]; exact (Fr.refl _ _).new hF
  have eb1 := g1.eb
  walk_at "wh"
  have skip : Ret Q (.tup [.tup [.str (Str.ofString "skip")]]) S1 := Ret.at (q [.skip] S1 ⟨⟨bv, ms, g1, h0, by omega, Nat.le_refl _, by simp only [Stm.sizes, Stm.size]; omega⟩, f1, fun x hx => by
    rw [List.mem_singleton.mp hx]
    exact .skip⟩)
  split
  · exact skip
  split
  · exact skip
  rename_i hfl hbv
  have g2 := g1.bud (bv' := bv - 1)
  have hdF : d ≠ F := g.dr.nd hF
  have eF2 : us S1 b (.lst [.int (bv - 1)]) F = some (.lst (fr.map .str)) := by rw [us_ne hFb.symm]; exact eF
  have f2 : Fr [d, b, m] S (us S1 b (.lst [.int (bv - 1)])) := f1.put (by simp)
  refine Cal_of ⟨d, l, _, fr.map .str, rfl, g2.dr, .inr ⟨F, rfl, by simp [hdF.symm], eF2⟩, fun e => ?_, by have := g.llen; rw [List.length_map]; omega, fun x S3 hx w3 => ?_⟩
  · have e : fr = [] := by simpa using e
    rw [e] at hfl
    simp at hfl
  obtain ⟨y, hy, rfl⟩ := List.mem_map.mp hx
  have g3 := g2.dw w3
  have f3 : Fr [d, b, m] S S3 := f2.trans w3.d3
  have eb3 := g3.eb
  walk_at "wh"
  have fin : ∀ ls S4, Go C d l w b m nm s S3 (bv - 1) ms 0 0 ls S4 → Ret Q (encB (.lock y :: ls ++ [.unlock y])) S4 := fun ls S4 go => by
    obtain ⟨bv', ms', k1, k2, k3, k4, k5⟩ := go.ex
    refine Ret.at (q _ S4 ⟨⟨bv', ms', k1, k2, by omega, k4, ?_⟩, f3.trans go.fr, fun x hx => ?_⟩)
    · simp only [List.cons_append, Stm.sizes, sizes_append, Stm.size]
      omega
    · simp only [List.cons_append, List.mem_cons, List.mem_append, List.not_mem_nil, or_false] at hx
      rcases hx with rfl | hx | rfl
      · exact .lock (hfr _ hy)
      · exact go.ok x hx
      · exact .unlock (hfr _ hy)
  refine CutH_of (fun env' S4 => ∃ ls, env' = [some (.ref d), some (.ref w), some (.ref b), some (.ref h), some (.str y), some (.ref F), some (encB ls)] ∧ Go C d l w b m nm s S3 (bv - 1) ms 0 0 ls S4) ?_ ?_
  · walk_at "wh"
    have hh3 := hh.fr f3
    split
    · intro p hp
      have hhp := sne hh3.eh hp
      have eh := hh3.eh
      walk_at "wh"
      refine ⟨by omega, fun p2 hp2 => ?_⟩
      have f4 : Fr [d, b, m] S3 (us (us S3 p (.lst [.str y])) p2 (.lst (hs.map .str ++ [.str y]))) := ((Fr.refl _ _).new hp).new hp2
      have l4 : Le S3 (us (us S3 p (.lst [.str y])) p2 (.lst (hs.map .str ++ [.str y]))) := (Le.new hp).trans (Le.new hp2)
      have hp0 : S3 p2 = none := (Le.new hp).none hp2
      refine Cal_of ⟨C, d, l, w, b, m, nm, p2, s, 2, bv - 1, ms, hs ++ [y], rfl, g3.le l4, ⟨by rw [us_same, List.map_append]; rfl, (g3.dr.nd hp0).symm, (sne g3.eb hp0).symm, (sne g3.em hp0).symm⟩, by omega, by omega, by rw [List.length_append, List.length_singleton]; omega, fun ls S5 go => ?_⟩
      walk_at "wb"
      obtain ⟨bv', ms', k1, k2, k3, k4, k5⟩ := go.ex
      exact ⟨ls, rfl, ⟨⟨bv', ms', k1, k2, by omega, k4, k5⟩, f4.trans go.fr, go.ok⟩⟩
    · exact ⟨[], rfl, ⟨⟨bv - 1, ms, g3, by omega, by omega, Nat.le_refl _, by simp [Stm.sizes]⟩, Fr.refl _ _, fun x hx => by cases hx⟩⟩
  · rintro env' S4 ⟨ls, rfl, go⟩
    walk_at "wb"
    obtain ⟨bv', ms', k1, k2, k3, k4, k5⟩ := go.ex
    have hl1 := length_sizes ls
    have hl2 := g3.mlen
    refine ⟨by rw [encs_len]; omega, by rw [encs_len]; omega, ?_⟩
    have e := fin ls S4 go
    rw [List.cons_append, encB, Stm.encs, encs_append] at e
    exact e
theorem ok_nested {f fd ft fs fr : Addr} {k : Nat} {N : Int} (T : Txt mg) (D : Df K mg "_law_nested" s_law_nested ["d", "world", "budget", "depth", "held", "way"] f) (F_law_draw : Fn P w K mg base 1 "_law_draw" fd sp_draw) (F_law_shuffled : Fn P w K mg base 2 "_law_shuffled" fs sp_shuffled)
    (F_law_truth : Fn P w K mg base 6 "_law_truth" ft (sp_truth 2)) (F_law_rows : Fn P w K mg base (k + 6) "_law_rows" fr (sp_rows N)) : Fn P w K mg base (k + 7) "_law_nested" f (sp_nested N) := by
  refine D.ok sc_law_nested (fun xs S Q ⟨C, d, l, w, b, m, nm, h, s, dep, bv, way, ms, hs, e, _⟩ => by rw [e]; rfl) fun cdv A0 outer s0 H E hr => ⟨_,
(ass_cons (as_set 6 sc_law_nested.nd (ae_call F_law_truth hr (by omega) (by rfl) (aa_cons (ae_var 0) (aa_cons (ae_slice (ae_call F_law_shuffled hr (by omega) (by rfl) (aa_cons (ae_var 0) (aa_cons (ae_ix ia_seq (ae_var 1) ae_int) aa_nil))) ap_none (ap_some ae_int)) (aa_cons ae_int aa_nil)))))
  (ass_cons (as_set 7 sc_law_nested.nd (ae_call F_law_rows hr (by omega) (by rfl) (aa_cons (ae_var 0) (aa_cons (ae_var 1) (aa_cons (ae_var 2) (aa_cons (ae_op oa_add ae_int (ae_call F_law_draw hr (by omega) (by rfl) (aa_cons (ae_var 0) (aa_cons ae_int aa_nil)))) (aa_cons (ae_op oa_add (ae_var 3) ae_int) (aa_cons (ae_var 4) aa_nil))))))))
  (ass_cons (as_if (at_cmp (oa_eq hr.units) (ae_var 5) ae_int)
  (ass_one (as_ret (ae_tup (aa_cons ae_str (aa_cons (ae_var 6) (aa_cons (ae_var 7) aa_nil))))))
  ass_nil)
  (ass_cons (as_if (at_cmp (oa_eq hr.units) (ae_var 5) ae_int)
  (ass_one (as_ret (ae_tup (aa_cons ae_str (aa_cons (ae_var 7) aa_nil)))))
  ass_nil)
  (ass_cons (as_set 8 sc_law_nested.nd (ae_call F_law_rows hr (by omega) (by rfl) (aa_cons (ae_var 0) (aa_cons (ae_var 1) (aa_cons (ae_var 2) (aa_cons (ae_call F_law_draw hr (by omega) (by rfl) (aa_cons (ae_var 0) (aa_cons ae_int aa_nil))) (aa_cons (ae_op oa_add (ae_var 3) ae_int) (aa_cons (ae_var 4) aa_nil))))))))
  (ass_one (as_ret (ae_tup (aa_cons ae_str (aa_cons (ae_var 6) (aa_cons (ae_var 7) (aa_cons (ae_var 8) aa_nil)))))))))))), ?_⟩
  rintro xs S Q ⟨C, d, l, w, b, m, nm, h, s, dep, bv, way, ms, hs, rfl, g, hh, h0, hN, hlen, q⟩
  obtain ⟨bx, sts, ew, hsl, hst⟩ := g.ew
  have eb := g.eb
  have hnl := g.nlen
  walk_at "wh"
  refine Cal_of ⟨d, l, _, C.names.map .str, rfl, g.dr, .inr ⟨nm, rfl, by simp [g.nd], g.enm⟩, by rw [List.length_map]; omega, fun p ys S1 hp1 hp2 hp3 w1 => ?_⟩
  obtain ⟨zs, rfl, hzs⟩ := perm_strs hp1
  walk_at "wh"
  intro p2 hp2
  have w2 : Dw d l [d] S (us S1 p2 (.lst ((zs.take 2).map .str))) := w1.new hp2
  have hsub : ∀ x ∈ zs.take 2, x ∈ C.names := fun x hx => hzs.mem_iff.mp (List.mem_of_mem_take hx)
  refine Cal_of ⟨1, d, l, .ref p2, zs.take 2, by omega, rfl, w2.dr, .inr ⟨p2, rfl, by simp [(w1.dr.nd hp2).symm], us_same⟩, by have := hzs.length_eq; rw [List.length_take]; omega, fun tr S3 ht w3 => ?_⟩
  have ht := ht.mono hsub
  walk_at "wh"
  refine Cal_of ⟨d, l, _, rfl, w3.dr, by omega, fun r S4 h1 h2 w4 => ?_⟩
  walk_at "wh"
  have w5 := (w2.trans w3).trans w4
  refine Cal_of ⟨C, d, l, w, b, m, nm, h, s, dep + 1, bv, 1 + r, ms, hs, rfl, g.dw w5, hh.fr w5.d3, by omega, by omega, by omega, by omega, by omega, fun inner S5 go => ?_⟩
  walk_at "wh"
  obtain ⟨bv1, ms1, k1, k2, k3, k4, k5⟩ := go.ex
  have f5 : Fr [d, b, m] S S5 := w5.d3.trans go.fr
  split
  · exact Ret.at (q (.wh tr inner) S5 ⟨⟨bv1, ms1, k1, k2, by omega, k4, by simp only [Stm.sizes, Stm.size]; omega⟩, f5, fun x hx => by
      rw [List.mem_singleton.mp hx]
      exact .wh ht go.ok⟩)
  split
  · exact Ret.at (q (.lp inner) S5 ⟨⟨bv1, ms1, k1, k2, by omega, k4, by simp only [Stm.sizes, Stm.size]; omega⟩, f5, fun x hx => by
      rw [List.mem_singleton.mp hx]
      exact .lp go.ok⟩)
  refine Cal_of ⟨d, l, _, rfl, k1.dr, by omega, fun r2 S6 h3 h4 w6 => ?_⟩
  walk_at "wh"
  refine Cal_of ⟨C, d, l, w, b, m, nm, h, s, dep + 1, bv1, r2, ms1, hs, rfl, k1.dw w6, (hh.fr f5).fr w6.d3, by omega, by omega, by omega, by omega, by omega, fun other S7 go2 => ?_⟩
  walk_at "wb"
  obtain ⟨bv2, ms2, j1, j2, j3, j4, j5⟩ := go2.ex
  exact Ret.at (q (.ite tr inner other) S7 ⟨⟨bv2, ms2, j1, j2, by omega, by omega, by simp only [Stm.sizes, Stm.size]; omega⟩, (f5.trans w6.d3).trans go2.fr, fun x hx => by
    rw [List.mem_singleton.mp hx]
    exact .ite ht go.ok go2.ok⟩)
theorem ok_rows {f fd fs : Addr} {k : Nat} {N : Int} (T : Txt mg) (D : Df K mg "_law_rows" s_law_rows ["d", "world", "budget", "many", "depth", "held"] f) (F_law_draw : Fn P w K mg base 1 "_law_draw" fd sp_draw)
    (F_law_statement : Fn P w K mg base (k + 2) "_law_statement" fs (sp_statement N)) : Fn P w K mg base (k + 3) "_law_rows" f (sp_rows N) := by
  refine D.ok sc_law_rows (fun xs S Q ⟨C, d, l, w, b, m, nm, h, s, dep, bv, way, ms, hs, e, _⟩ => by rw [e]; rfl) fun cdv A0 outer s0 H E hr => ⟨_,
(ass_cons (as_set 6 sc_law_rows.nd (ae_tup aa_nil))
  (ass_cons (as_for (ws := [7]) PassesOwn.never rfl (ai_range1 (by rfl) T.b_range (aa_cons (ae_var 3) aa_nil)) (ag_name 7 sc_law_rows.nd)
  (ass_one (as_if (at_cmp oa_gt (ae_ix ia_seq (ae_var 2) ae_int) ae_int)
  (ass_cut (as_if (at_w (aw_and (at_cmp oa_gt (ae_callB ca_len (by rfl) T.b_len PySem.boot_len (aa_cons (ae_ix ia_seq (ae_var 1) ae_int) aa_nil)) ae_int) (aw_and1 (at_cmp (oa_eq hr.units) (ae_call F_law_draw hr (by omega) (by rfl) (aa_cons (ae_var 0) (aa_cons ae_int aa_nil))) ae_int))))
  (ass_one (as_set 6 sc_law_rows.nd (ae_op oa_add (ae_var 6) (ae_tup (aa_cons (ae_tup (aa_cons ae_str (aa_cons (ae_lm0 PySem.F.slot_list_pop PySem.F.type_list_pop ma_pop (ae_ix ia_seq (ae_var 1) ae_int)) aa_nil))) aa_nil)))))
  ass_nil)
  (ass_one (as_set 6 sc_law_rows.nd (ae_op oa_add (ae_var 6) (ae_call F_law_statement hr (by omega) (by rfl) (aa_cons (ae_var 0) (aa_cons (ae_var 1) (aa_cons (ae_var 2) (aa_cons (ae_var 4) (aa_cons (ae_var 5) aa_nil))))))))))
  ass_nil)))
  (ass_one (as_ret (ae_var 6))))), ?_⟩
  rintro xs S Q ⟨C, d, l, w, b, m, nm, h, s, dep, bv, many, ms, hs, rfl, g, hh, h0, hN, hm0, hm1, hlen, q⟩
  walk_at "wb"
  obtain ⟨mn, rfl⟩ := Int.eq_ofNat_of_zero_le hm0
  refine ⟨by omega, by omega, LoopH_of (for_R0 (fun i env S' => ∃ x ls, env = [some (.ref d), some (.ref w), some (.ref b), some (.int (mn : Nat)), some (.int dep), some (.ref h), some (encB ls), x] ∧ Go C d l w b m nm s S bv ms 0 0 ls S') ⟨none, [], rfl, ⟨bv, ms, g, h0, by omega, Nat.le_refl _, by simp [Stm.sizes]⟩, Fr.refl _ _, fun x hx => by cases hx⟩ ?_ ?_)⟩
  · rintro i env S1 hi ⟨x, ls, rfl, go⟩
    obtain ⟨bv1, ms1, k1, k2, k3, k4, k5⟩ := go.ex
    obtain ⟨bx, sts, ew, hsl, hst⟩ := k1.ew
    have eb := k1.eb
    have em := k1.em
    walk_at "wh"
    have hlen1 := go.len g
    split
    · refine CutH_of (fun env' S' => ∃ ls2 ms2, env' = [some (.ref d), some (.ref w), some (.ref b), some (.int (mn : Nat)), some (.int dep), some (.ref h), some (encB ls2), some (.int (i : Nat))] ∧ Wl C d l w b m nm s S' bv1 ms2 ∧ Fr [d, b, m] S S' ∧ (∀ x ∈ ls2, StmOk C x) ∧ ms2.length ≤ ms.length ∧ (Stm.sizes ls2 : Int) + bv1 + (ms2.length : Int) ≤ bv + (ms.length : Int)) ?_ ?_
      · walk_at "wh"
        have stay : ∀ S', Dw d l [d] S1 S' → ∃ ls2 ms2, [some (A.ref d), some (.ref w), some (.ref b), some (.int (mn : Nat)), some (.int dep), some (.ref h), some (encB ls), some (.int (i : Nat))] = [some (.ref d), some (.ref w), some (.ref b), some (.int (mn : Nat)), some (.int dep), some (.ref h), some (encB ls2), some (.int (i : Nat))] ∧ Wl C d l w b m nm s S' bv1 ms2 ∧ Fr [d, b, m] S S' ∧ (∀ x ∈ ls2, StmOk C x) ∧ ms2.length ≤ ms.length ∧ (Stm.sizes ls2 : Int) + bv1 + (ms2.length : Int) ≤ bv + (ms.length : Int) := fun S' w2 =>
          ⟨ls, ms1, rfl, k1.dw w2, go.fr.trans w2.d3, go.ok, k4, by omega⟩
        split
        · rename_i hb hml
          refine Cal_of ⟨d, l, _, rfl, k1.dr, by omega, fun r S2 h1 h2 w2 => ?_⟩
          have j1 := k1.dw w2
          obtain ⟨bx2, sts2, ew2, _⟩ := j1.ew
          have em2 := j1.em
          obtain ⟨z, hz⟩ := get_of_lt (l := ms1) (j := ms1.length - 1) (by omega)
          have hz2 : (ms1.map A.str)[ms1.length - 1]? = some (.str z) := by rw [List.getElem?_map, hz]; rfl
          walk_at "wh"
          split
          · have hlz := length_sizes ls
            refine ⟨by rw [encs_len]; omega, ls ++ [.mark z], ms1.dropLast, ?_, ?_, ?_, ?_, ?_, ?_⟩
            · simp only [encB, encs_append]
              rfl
            · rw [← List.map_dropLast]
              exact j1.pop (fun x hx => (List.dropLast_sublist ms1).mem hx) (by simp)
            · exact (go.fr.trans w2.d3).put (by simp)
            · intro x hx
              rcases List.mem_append.mp hx with hx | hx
              · exact go.ok x hx
              · rw [List.mem_singleton.mp hx]
                exact .mark (k1.msub _ (List.mem_of_getElem? hz))
            · rw [List.length_dropLast]; omega
            · rw [sizes_append, List.length_dropLast]
              simp only [Stm.sizes, Stm.size]
              omega
          · trivial
        · exact stay S1 (Dw.refl k1.dr _)
      · rintro env' S' ⟨ls2, ms2, rfl, j1, j2, j3, j4, j5⟩
        walk_at "wh"
        refine Cal_of ⟨C, d, l, w, b, m, nm, h, s, dep, bv1, ms2, hs, rfl, j1, hh.fr j2, by omega, by omega, by omega, fun more S2 go2 => ?_⟩
        walk_at "wb"
        have hl2 := length_sizes ls2
        have hl3 := go2.len j1
        have hml := g.mlen
        obtain ⟨bv3, ms3, i1, i2, i3, i4, i5⟩ := go2.ex
        refine ⟨by rw [encs_len, encs_len]; omega, some (.int (i : Nat)), ls2 ++ more, ?_, ⟨⟨bv3, ms3, i1, i2, by omega, by omega, ?_⟩, j2.trans go2.fr, fun x hx => ?_⟩⟩
        · simp only [encB, encs_append]
        · rw [sizes_append]
          omega
        · rcases List.mem_append.mp hx with hx | hx
          · exact j3 x hx
          · exact go2.ok x hx
    · exact ⟨_, ls, rfl, go⟩
  · rintro env S1 ⟨x, ls, rfl, go⟩
    walk_at "wb"
    exact Ret.at (q ls S1 go)
theorem ok_statement {f fd fp fs fn ft fe fu : Addr} {k : Nat} {N : Int} (T : Txt mg) (D : Df K mg "_law_statement" s_law_statement ["d", "world", "budget", "depth", "held"] f) (F_law_draw : Fn P w K mg base 1 "_law_draw" fd sp_draw) (F_law_pick : Fn P w K mg base 2 "_law_pick" fp sp_pick) (F_law_shuffled : Fn P w K mg base 2 "_law_shuffled" fs sp_shuffled)
    (F_law_number : Fn P w K mg base 4 "_law_number" fn (sp_number 2)) (F_law_truth : Fn P w K mg base 6 "_law_truth" ft (sp_truth 2)) (F_law_nested : Fn P w K mg base (k + 6) "_law_nested" fe (sp_nested N)) (F_law_section : Fn P w K mg base (k + 6) "_law_section" fu (sp_section N)) : Fn P w K mg base (k + 7) "_law_statement" f (sp_statement (N + 1)) := by
  refine D.ok sc_law_statement (fun xs S Q ⟨C, d, l, w, b, m, nm, h, s, dep, bv, ms, hs, e, _⟩ => by rw [e]; rfl) fun cdv A0 outer s0 H E hr => ⟨_,
(ass_cons (as_asg (ws := []) (ae_op oa_sub (ae_ix ia_seq (ae_var 2) ae_int) ae_int) (ag_sub (ae_var 2) ae_int))
  (ass_cons (as_set 5 sc_law_statement.nd (ae_call F_law_draw hr (by omega) (by rfl) (aa_cons (ae_var 0) (aa_cons ae_int aa_nil))))
  (ass_cons (as_set 6 sc_law_statement.nd (ae_slice (ae_call F_law_shuffled hr (by omega) (by rfl) (aa_cons (ae_var 0) (aa_cons (ae_ix ia_seq (ae_var 1) ae_int) aa_nil))) ap_none (ap_some ae_int)))
  (ass_cons (as_if (at_cmp oa_lt (ae_var 5) ae_int)
  (ass_one (as_ret (ae_tup (aa_cons (ae_tup (aa_cons ae_str (aa_cons (ae_call F_law_pick hr (by omega) (by rfl) (aa_cons (ae_var 0) (aa_cons (ae_ix ia_seq (ae_var 1) ae_int) aa_nil))) (aa_cons (ae_call F_law_number hr (by omega) (by rfl) (aa_cons (ae_var 0) (aa_cons (ae_var 6) (aa_cons ae_int aa_nil)))) aa_nil)))) aa_nil))))
  ass_nil)
  (ass_cons (as_if (at_cmp oa_lt (ae_var 5) ae_int)
  (ass_one (as_ret (ae_tup (aa_cons (ae_tup (aa_cons ae_str (aa_cons (ae_call F_law_truth hr (by omega) (by rfl) (aa_cons (ae_var 0) (aa_cons (ae_var 6) (aa_cons ae_int aa_nil)))) aa_nil))) aa_nil))))
  ass_nil)
  (ass_cons (as_if (at_cmp (oa_eq hr.units) (ae_var 5) ae_int)
  (ass_one (as_ret (ae_tup (aa_cons (ae_tup (aa_cons ae_str (aa_cons (ae_ix ia_seq (ae_var 6) ae_int) aa_nil))) aa_nil))))
  ass_nil)
  (ass_cons (as_if (at_w (aw_and (at_cmp oa_lt (ae_var 5) ae_int) (aw_and1 (at_cmp oa_gt (ae_callB ca_len (by rfl) T.b_len PySem.boot_len (aa_cons (ae_ix ia_seq (ae_var 1) ae_int) aa_nil)) ae_int))))
  (ass_cons (as_set 7 sc_law_statement.nd (ae_ix ia_seq (ae_call F_law_pick hr (by omega) (by rfl) (aa_cons (ae_var 0) (aa_cons (ae_ix ia_seq (ae_var 1) ae_int) aa_nil))) ae_int))
  (ass_cons (as_if (at_cmp (oa_eq hr.units) (ae_call F_law_draw hr (by omega) (by rfl) (aa_cons (ae_var 0) (aa_cons ae_int aa_nil))) ae_int)
  (ass_one (as_ret (ae_tup (aa_cons (ae_tup (aa_cons ae_str (aa_cons (ae_call F_law_number hr (by omega) (by rfl) (aa_cons (ae_var 0) (aa_cons (ae_var 6) (aa_cons ae_int aa_nil)))) (aa_cons (ae_var 7) aa_nil)))) aa_nil))))
  ass_nil)
  (ass_one (as_ret (ae_tup (aa_cons (ae_tup (aa_cons ae_str (aa_cons (ae_ix ia_seq (ae_var 6) ae_int) (aa_cons (ae_var 7) aa_nil)))) aa_nil))))))
  ass_nil)
  (ass_cons (as_if (at_cmp oa_lt (ae_var 5) ae_int)
  (ass_one (as_ret (ae_call F_law_section hr (by omega) (by rfl) (aa_cons (ae_var 0) (aa_cons (ae_var 1) (aa_cons (ae_var 2) (aa_cons (ae_var 4) aa_nil)))))))
  ass_nil)
  (ass_cons (as_if (at_w (aw_and (at_cmp oa_lt (ae_var 5) ae_int) (aw_and (at_cmp oa_lt (ae_var 3) ae_int) (aw_and (at_cmp oa_gt (ae_ix ia_seq (ae_var 2) ae_int) ae_int) (aw_and1 (at_cmp (oa_eq hr.units) (ae_ix ia_seq (ae_var 1) ae_int) ae_int))))))
  (ass_one (as_ret (ae_tup (aa_cons (ae_call F_law_nested hr (by omega) (by rfl) (aa_cons (ae_var 0) (aa_cons (ae_var 1) (aa_cons (ae_var 2) (aa_cons (ae_var 3) (aa_cons (ae_var 4) (aa_cons (ae_call F_law_draw hr (by omega) (by rfl) (aa_cons (ae_var 0) (aa_cons ae_int aa_nil))) aa_nil))))))) aa_nil))))
  ass_nil)
  (ass_one (as_ret (ae_tup (aa_cons (ae_tup (aa_cons ae_str aa_nil)) aa_nil))))))))))))), ?_⟩
  rintro xs S Q ⟨C, d, l, w, b, m, nm, h, s, dep, bv, ms, hs, rfl, g, hh, h0, hN, hlen, q⟩
  obtain ⟨bx, sts, ew, hsl, hst⟩ := g.ew
  have eb := g.eb
  have hnl := g.nlen
  have g0 := g.bud (bv' := bv - 1)
  walk_at "wh"
  refine Cal_of ⟨d, l, _, rfl, g0.dr, by omega, fun r S1 h1 h2 w1 => ?_⟩
  have g1 := g0.dw w1
  obtain ⟨bx1, sts1, ew1, hsl1, hst1⟩ := g1.ew
  walk_at "wh"
  refine Cal_of ⟨d, l, _, C.names.map .str, rfl, g1.dr, .inr ⟨nm, rfl, by simp [g.nd], g1.enm⟩, by rw [List.length_map]; omega, fun p ys S2 hp1 hp2 hp3 w2 => ?_⟩
  obtain ⟨zs, rfl, hzs⟩ := perm_strs hp1
  walk_at "wh"
  intro p2 hp2
  obtain ⟨z0, zr, rfl⟩ : ∃ z0 zr, zs = z0 :: zr := by
    cases zs with
    | nil => exact absurd hzs.nil_eq.symm g.nne
    | cons z0 zr => exact ⟨z0, zr, rfl⟩
  have hsub : ∀ x ∈ (z0 :: zr).take 2, x ∈ C.names := fun x hx => hzs.mem_iff.mp (List.mem_of_mem_take hx)
  have hz0 : z0 ∈ C.names := hzs.mem_iff.mp (by simp)
  have hl2 : ((z0 :: zr).take 2).length ≤ 1000000 := by rw [List.length_take]; omega
  have e2 : ((z0 :: zr).take 2).map A.str = .str z0 :: (zr.take 1).map .str := rfl
  have g3 := (g1.dw w2).new (o := .lst (((z0 :: zr).take 2).map .str)) hp2
  have f3 : Fr [d, b, m] S (us S2 p2 (.lst (((z0 :: zr).take 2).map .str))) := (((((Fr.refl _ _).put (by simp)).trans w1.d3).trans w2.d3).new hp2)
  have ep3 : us S2 p2 (.lst (((z0 :: zr).take 2).map .str)) p2 = some (.lst (((z0 :: zr).take 2).map .str)) := us_same
  have hp2d : p2 ∉ [d] := by simp [((g1.dw w2).dr.nd hp2).symm]
  generalize us S2 p2 (.lst (((z0 :: zr).take 2).map .str)) = S3 at g3 f3 ep3 ⊢
  obtain ⟨bx3, sts3, ew3, hsl3, hst3⟩ := g3.ew
  have eb3 := g3.eb
  have hml := g.mlen
  have fin : ∀ x S', Wl C d l w b m nm s S' (bv - 1) ms → Fr [d, b, m] S S' → StmOk C x → x.size = 1 → Ret Q (.tup [x.enc]) S' := fun x S' k1 k2 k3 k4 => Ret.at (q [x] S' ⟨⟨bv - 1, ms, k1, by omega, by omega, Nat.le_refl _, by simp only [Stm.sizes]; omega⟩, k2, fun y hy => by rw [List.mem_singleton.mp hy]; exact k3⟩)
  have skip := fin .skip S3 g3 f3 .skip rfl
  have sect : @Cal (sp_section N) [A.ref d, A.ref w, A.ref b, A.ref h] S3 ⟨fun x S => Ret Q x S⟩ := Cal_of ⟨C, d, l, w, b, m, nm, h, s, bv - 1, ms, hs, rfl, g3, hh.fr f3, by omega, by omega, by omega, fun ls S' go => Ret.at (q ls S' (go.back f3 (by omega) (Nat.le_refl _) (by omega)))⟩
  split
  · have en := g3.enm
    walk_at "wh"
    refine Cal_of ⟨d, l, _, C.names.map .str, rfl, g3.dr, .inr ⟨nm, rfl, by simp [g.nd], g3.enm⟩, by simpa using g.nne, by rw [List.length_map]; omega, fun x S4 hx w4 => ?_⟩
    obtain ⟨y, hy, rfl⟩ := List.mem_map.mp hx
    walk_at "wh"
    refine Cal_of ⟨1, d, l, .ref p2, _, by omega, rfl, w4.dr, .inr ⟨p2, rfl, hp2d, w4.at hp2d ep3⟩, hl2, fun e S5 he w5 => ?_⟩
    walk_at "wb"
    exact fin (.set y e) S5 ((g3.dw w4).dw w5) ((f3.trans w4.d3).trans w5.d3) (.set hy (he.mono hsub)) rfl
  split
  · refine Cal_of ⟨1, d, l, .ref p2, _, by omega, rfl, g3.dr, .inr ⟨p2, rfl, hp2d, ep3⟩, hl2, fun e S5 he w5 => ?_⟩
    walk_at "wb"
    exact fin (.wait e) S5 (g3.dw w5) (f3.trans w5.d3) (.wait (he.mono hsub)) rfl
  split
  · rw [e2]
    walk_at "wb"
    exact fin (.pick z0) S3 g3 f3 (.pick hz0) rfl
  split
  · rename_i hr9
    walk_at "wh"
    split
    · rename_i hsp
      refine Cal_of ⟨d, l, _, sts3, rfl, g3.dr, .inl rfl, fun e => by rw [e] at hsp; simp at hsp, by omega, fun x S4 hx w4 => ?_⟩
      obtain ⟨qn, qr, rfl, hq⟩ := hst3 x hx
      walk_at "wh"
      refine Cal_of ⟨d, l, _, rfl, w4.dr, by omega, fun r2 S5 h3 h4 w5 => ?_⟩
      have ep5 := w5.at hp2d (w4.at hp2d ep3)
      walk_at "wb"
      split
      · refine Cal_of ⟨0, d, l, .ref p2, _, by omega, rfl, w5.dr, .inr ⟨p2, rfl, hp2d, ep5⟩, hl2, fun e S6 he w6 => ?_⟩
        walk_at "wb"
        exact fin (.send e qn) S6 (((g3.dw w4).dw w5).dw w6) (((f3.trans w4.d3).trans w5.d3).trans w6.d3) (.send (he.mono hsub) hq) rfl
      · rw [e2] at ep5
        walk_at "wh"
        exact fin (.take z0 qn) S5 ((g3.dw w4).dw w5) ((f3.trans w4.d3).trans w5.d3) (.take hz0 hq) rfl
    · rw [if_pos (by omega)]
      trivial
  split
  · exact Cal_of ⟨C, d, l, w, b, m, nm, h, s, bv - 1, ms, hs, rfl, g3, hh.fr f3, by omega, by omega, by omega, fun ls S' go => Ret.at (q ls S' (go.back f3 (by omega) (Nat.le_refl _) (by omega)))⟩
  split
  · walk_at "wh"
    split
    · split
      · split
        · refine Cal_of ⟨d, l, _, rfl, g3.dr, by omega, fun r2 S4 h3 h4 w4 => ?_⟩
          walk_at "wb"
          refine Cal_of ⟨C, d, l, w, b, m, nm, h, s, dep, bv - 1, r2, ms, hs, rfl, g3.dw w4, (hh.fr f3).fr w4.d3, by omega, by omega, by omega, fun x S' go => ?_⟩
          walk_at "wb"
          exact Ret.at (q [x] S' (go.back (f3.trans w4.d3) (by omega) (Nat.le_refl _) (by omega)))
        · exact skip
      · exact skip
    · exact skip
  · exact skip
/-- all four, by the budget -/
theorem ok_pieces {fd fp fsh fn ft fs fc fe fr : Addr} (T : Txt mg) (D1 : Df K mg "_law_statement" s_law_statement ["d", "world", "budget", "depth", "held"] fs) (D2 : Df K mg "_law_section" s_law_section ["d", "world", "budget", "held"] fc) (D3 : Df K mg "_law_nested" s_law_nested ["d", "world", "budget", "depth", "held", "way"] fe) (D4 : Df K mg "_law_rows" s_law_rows ["d", "world", "budget", "many", "depth", "held"] fr)
    (F_law_draw : Fn P w K mg base 1 "_law_draw" fd sp_draw) (F_law_pick : Fn P w K mg base 2 "_law_pick" fp sp_pick) (F_law_shuffled : Fn P w K mg base 2 "_law_shuffled" fsh sp_shuffled) (F_law_number : Fn P w K mg base 4 "_law_number" fn (sp_number 2)) (F_law_truth : Fn P w K mg base 6 "_law_truth" ft (sp_truth 2)) :
    ∀ n : Nat, Fn P w K mg base (3 * n + 5) "_law_statement" fs (sp_statement n) ∧ Fn P w K mg base (3 * n + 7) "_law_section" fc (sp_section n) ∧ Fn P w K mg base (3 * n + 6) "_law_rows" fr (sp_rows n) ∧ Fn P w K mg base (3 * n + 7) "_law_nested" fe (sp_nested n)
  | 0 => by
    have h1 : Fn P w K mg base 5 "_law_statement" fs (sp_statement 0) := (D1.never' fun xs S Q ⟨C, d, l, w, b, m, nm, h, s, dep, bv, ms, hs, e, _, _, h1, h2, _⟩ => by omega).mono (Nat.zero_le _)
    have h0 : Fn P w K mg base 6 "_law_statement" fs (sp_statement (-1)) := (D1.never' fun xs S Q ⟨C, d, l, w, b, m, nm, h, s, dep, bv, ms, hs, e, _, _, h1, h2, _⟩ => by omega).mono (Nat.zero_le _)
    have h2 : Fn P w K mg base 7 "_law_section" fc (sp_section 0) := ok_section (k := 4) (N := -1) T D2 F_law_draw F_law_pick h0
    have h3 : Fn P w K mg base 6 "_law_rows" fr (sp_rows 0) := ok_rows (k := 3) T D4 F_law_draw h1
    exact ⟨h1, h2, h3, ok_nested (k := 0) T D3 F_law_draw F_law_shuffled F_law_truth h3⟩
  | n + 1 => by
    obtain ⟨h1, h2, h3, h4⟩ := ok_pieces T D1 D2 D3 D4 F_law_draw F_law_pick F_law_shuffled F_law_number F_law_truth n
    have e : ((n + 1 : Nat) : Int) = (n : Int) + 1 := by omega
    have i1 : Fn P w K mg base (3 * n + 8) "_law_statement" fs (sp_statement (n + 1 : Nat)) := by
      rw [e]
      exact ok_statement (k := 3 * n + 1) T D1 F_law_draw F_law_pick F_law_shuffled F_law_number F_law_truth h4 h2
    have i2 : Fn P w K mg base (3 * n + 6) "_law_section" fc (sp_section (n + 1 : Nat)) := by
      rw [e]
      exact ok_section (k := 3 * n + 3) T D2 F_law_draw F_law_pick h1
    have i3 : Fn P w K mg base (3 * n + 9) "_law_rows" fr (sp_rows (n + 1 : Nat)) := ok_rows (k := 3 * n + 6) T D4 F_law_draw i1
    have i4 : Fn P w K mg base (3 * n + 10) "_law_nested" fe (sp_nested (n + 1 : Nat)) := ok_nested (k := 3 * n + 3) T D3 F_law_draw F_law_shuffled F_law_truth i3
    exact ⟨i1, i2.mono (by omega), i3, i4⟩
end
end K77

set_option Elab.async false
set_option maxRecDepth 100000
set_option maxHeartbeats 8000000
set_option linter.all false
namespace K77
open PySem L2 WA
section
variable {P : Program} {w : World} {K : PySem.W.Frag} {mg : Str → Option Value} {base : Heap}
abbrev s_law_thread : Stmt := topS 23
abbrev N_law_thread : List Str := ["d", "name", "parts", "spare", "most_steps", "kinds", "copies", "privates", "marks", "row", "names", "world", "body", "way"]
theorem sc_law_thread : FnScope N_law_thread ["d", "name", "parts", "spare", "most_steps", "kinds"] (defScope s_law_thread) := ⟨rfl, rfl, rfl, by decide +kernel, rfl, by decide +kernel, by decide +kernel⟩

abbrev s_law_program_of : Stmt := topS 24
abbrev N_law_program_of : List Str := ["d", "most_threads", "most_steps", "kinds", "names", "boxes", "step", "low", "size", "locks", "queues", "bags", "parts", "threads", "name"]
theorem sc_law_program_of : FnScope N_law_program_of ["d", "most_threads", "most_steps", "kinds"] (defScope s_law_program_of) := ⟨rfl, rfl, rfl, by decide +kernel, rfl, by decide +kernel, by decide +kernel⟩

def sp_thread (N : Int) : ASp := fun xs S Q => ∃ (d l : Addr) (name spare kinds : Str) (bx : List VarR) (lk sn : List Str) (qs bs : List A) (steps : Int), xs = [.ref d, .str name, .tup [.tup (bx.map VarR.enc), .tup (lk.map .str), .tup qs, .tup bs], .str spare, .int steps, .str kinds] ∧
  Dr d l S ∧ bx ≠ [] ∧ bx.length ≤ 50 ∧ lk.length ≤ 50 ∧ qs.length ≤ 50 ∧ bs.length ≤ 50 ∧ (∀ x ∈ qs ++ bs, ∃ q r, x = .tup (.str q :: r) ∧ q ∈ sn) ∧ 1 ≤ steps ∧ steps ≤ N ∧ N ≤ 50 ∧
  ∀ t S', t.name = name → ThrOk kinds bx lk sn steps t → Dw d l [d] S S' → Q t.enc S'
theorem ok_thread {f fd fp fs fr : Addr} {k : Nat} {N : Int} (T : Txt mg) (D : Df K mg "_law_thread" s_law_thread ["d", "name", "parts", "spare", "most_steps", "kinds"] f) (F_law_draw : Fn P w K mg base 1 "_law_draw" fd sp_draw) (F_law_pick : Fn P w K mg base 2 "_law_pick" fp sp_pick) (F_law_shuffled : Fn P w K mg base 2 "_law_shuffled" fs sp_shuffled)
    (F_law_rows : Fn P w K mg base (k + 2) "_law_rows" fr (sp_rows N)) : Fn P w K mg base (k + 3) "_law_thread" f (sp_thread N) := by
  refine D.ok sc_law_thread (fun xs S Q ⟨d, l, name, spare, kinds, bx, lk, sn, qs, bs, steps, e, _⟩ => by rw [e]; rfl) fun cdv A0 outer s0 H E hr => ⟨_,
(ass_cut (as_set 6 sc_law_thread.nd (ae_op oa_add (ae_op oa_add (ae_lst (aa_cons ae_int aa_nil)) (ae_if (at_cmp oa_in ae_str (ae_var 5)) (ae_lst (aa_cons ae_int aa_nil)) (ae_lst aa_nil))) (ae_if (at_cmp oa_in ae_str (ae_var 5)) (ae_lst (aa_cons ae_non (aa_cons ae_non aa_nil))) (ae_lst aa_nil))))
  (ass_cons (as_set 7 sc_law_thread.nd (ae_tup aa_nil))
  (ass_cut (as_if (at_w (aw_and (at_cmp oa_in ae_str (ae_var 5)) (aw_and1 (at_cmp (oa_eq hr.units) (ae_call F_law_draw hr (by omega) (by rfl) (aa_cons (ae_var 0) (aa_cons ae_int aa_nil))) ae_int))))
  (ass_one (as_set 7 sc_law_thread.nd (ae_tup (aa_cons (ae_tup (aa_cons (ae_var 3) (aa_cons ae_int (aa_cons ae_int (aa_cons (ae_call F_law_draw hr (by omega) (by rfl) (aa_cons (ae_var 0) (aa_cons ae_int aa_nil))) aa_nil))))) aa_nil))))
  ass_nil)
  (ass_cons (as_set 8 sc_law_thread.nd (ae_call F_law_shuffled hr (by omega) (by rfl) (aa_cons (ae_var 0) (aa_cons (ae_tup (aa_cons ae_str (aa_cons ae_str (aa_cons ae_str aa_nil)))) aa_nil))))
  (ass_cons (as_setLc 10 (own := [("row", 9)]) rfl sc_law_thread.nd rfl rfl (sw_true rfl rfl rfl (by decide +kernel)) (ai_seq (ae_op oa_add (ae_ix ia_seq (ae_var 2) ae_int) (ae_var 7))) (blkOk_by (own := [("row", 9)]) (N := N_law_thread) (sc := defScope s_law_thread) (by decide +kernel)) (fun _ _ _ _ _ => (ag_name 9 sc_law_thread.nd)) (fun _ _ _ _ _ => ats_nil) (fun _ _ _ _ _ => (ae_ix ia_seq (ae_var 9) ae_int)))
  (ass_cut (as_set 11 sc_law_thread.nd (ae_lst (aa_cons (ae_ix ia_seq (ae_var 2) ae_int) (aa_cons (ae_ix ia_seq (ae_var 2) ae_int) (aa_cons (ae_op oa_add (ae_ix ia_seq (ae_var 2) ae_int) (ae_ix ia_seq (ae_var 2) ae_int)) (aa_cons (ae_var 8) (aa_cons (ae_var 10) (aa_cons (ae_if (at_cmp oa_in ae_str (ae_var 5)) ae_int ae_int) aa_nil))))))))
  (ass_cons (as_set 12 sc_law_thread.nd (ae_call F_law_rows hr (by omega) (by rfl) (aa_cons (ae_var 0) (aa_cons (ae_var 11) (aa_cons (ae_lst (aa_cons (ae_op oa_add ae_int (ae_call F_law_draw hr (by omega) (by rfl) (aa_cons (ae_var 0) (aa_cons (ae_var 4) aa_nil)))) aa_nil)) (aa_cons (ae_var 4) (aa_cons ae_int (aa_cons (ae_lst aa_nil) aa_nil))))))))
  (ass_cut (as_set 13 sc_law_thread.nd (ae_if (at_cmp oa_in ae_str (ae_var 5)) (ae_call F_law_draw hr (by omega) (by rfl) (aa_cons (ae_var 0) (aa_cons ae_int aa_nil))) ae_int))
  (ass_cut (as_if (at_cmp (oa_eq hr.units) (ae_var 13) ae_int)
  (ass_one (as_set 12 sc_law_thread.nd (ae_op oa_add (ae_var 12) (ae_tup (aa_cons (ae_tup (aa_cons ae_str aa_nil)) aa_nil)))))
  ass_nil)
  (ass_cut (as_if (at_cmp (oa_eq hr.units) (ae_var 13) ae_int)
  (ass_one (as_set 12 sc_law_thread.nd (ae_tup (aa_cons (ae_tup (aa_cons ae_str (aa_cons (ae_var 12) aa_nil))) aa_nil))))
  ass_nil)
  (ass_cut (as_if (at_w (aw_and (at_cmp oa_gt (ae_callB ca_len (by rfl) T.b_len PySem.boot_len (aa_cons (ae_var 8) aa_nil)) ae_int) (aw_and1 (at_cmp (oa_eq hr.units) (ae_call F_law_draw hr (by omega) (by rfl) (aa_cons (ae_var 0) (aa_cons ae_int aa_nil))) ae_int))))
  (ass_one (as_set 12 sc_law_thread.nd (ae_op oa_add (ae_var 12) (ae_tup (aa_cons (ae_tup (aa_cons ae_str (aa_cons (ae_ix ia_seq (ae_var 8) ae_int) aa_nil))) aa_nil)))))
  ass_nil)
  (ass_one (as_ret (ae_tup (aa_cons (ae_var 1) (aa_cons (ae_call F_law_pick hr (by omega) (by rfl) (aa_cons (ae_var 0) (aa_cons (ae_var 6) aa_nil))) (aa_cons (ae_var 7) (aa_cons (ae_var 12) aa_nil)))))))))))))))))), ?_⟩
  rintro xs S Q ⟨d, l, name, spare, kinds, bx, lk, sn, qs, bs, steps, rfl, hd, hbx, hbl, hll, hql, hsl, hst, h1, h2, hN, q⟩
  walk_at "wb"
  refine CutH_of (fun env' S' => ∃ a cs, env' = [some (.ref d), some (.str name), some (.tup [.tup (bx.map VarR.enc), .tup (lk.map .str), .tup qs, .tup bs]), some (.str spare), some (.int steps), some (.str kinds), some (.ref a), none, none, none, none, none, none, none] ∧ S' a = some (.lst cs) ∧ a ≠ d ∧ a ≠ l ∧ cs ≠ [] ∧ cs.length ≤ 4 ∧
      (∀ c ∈ cs, c = .int 1 ∨ (c = .int 2 ∧ strIn (Str.ofString "c") kinds = true) ∨ (c = .non ∧ strIn (Str.ofString "o") kinds = true)) ∧ Dw d l [d] S S') ?_ ?_
  · cases hc : strIn (Str.ofString "c") kinds <;> cases ho : strIn (Str.ofString "o") kinds <;>
    · walk_at "wh"
      intro p1 hp1 p2 hp2
      have n1 : p1 ≠ p2 := sne us_same hp2
      walk_at "wh"
      intro p3 hp3 p4 hp4
      have n3 : p3 ≠ p4 := sne us_same hp4
      walk_at "wh"
      intro p5 hp5
      exact ⟨p5, _, rfl, us_same, ((((((Dw.refl hd [d]).new hp1).new hp2).new hp3).new hp4).dr.nd hp5).symm, ((((((Dw.refl hd [d]).new hp1).new hp2).new hp3).new hp4).dr.nl hp5).symm, by simp, by simp, by simp [hc, ho], (((((Dw.refl hd [d]).new hp1).new hp2).new hp3).new hp4).new hp5⟩
  · rintro env' S1 ⟨a, cs, rfl, ea, had, hal, hne, hcl, hcs, w1⟩
    walk_at "wb"
    refine CutH_of (fun env' S' => ∃ pv : List VarR, env' = [some (.ref d), some (.str name), some (.tup [.tup (bx.map VarR.enc), .tup (lk.map .str), .tup qs, .tup bs]), some (.str spare), some (.int steps), some (.str kinds), some (.ref a), some (.tup (pv.map VarR.enc)), none, none, none, none, none, none] ∧
        pv.length ≤ 1 ∧ (∀ v ∈ pv, v.lo = 0 ∧ v.hi = 1 ∧ VarR.ok v) ∧ (pv ≠ [] → strIn (Str.ofString "v") kinds = true) ∧ Dw d l [d] S S' ∧ S' a = some (.lst cs)) ?_ ?_
    · walk_at "wb"
      split
      · rename_i hv
        refine Cal_of ⟨d, l, _, rfl, w1.dr, by omega, fun r S2 h3 h4 w2 => ?_⟩
        have ea2 := w2.at (by simp [had]) ea
        walk_at "wb"
        split
        · refine Cal_of ⟨d, l, _, rfl, w2.dr, by omega, fun r2 S3 h5 h6 w3 => ?_⟩
          have ea3 := w3.at (by simp [had]) ea2
          walk_at "wb"
          exact ⟨[⟨spare, 0, 1, r2⟩], rfl, by simp, fun v hv => by
            rw [List.mem_singleton.mp hv]
            exact ⟨rfl, rfl, by simp only [VarR.ok]; omega⟩, fun _ => hv, (w1.trans w2).trans w3, ea3⟩
        · exact ⟨[], rfl, by simp, by simp, by simp, w1.trans w2, ea2⟩
      · exact ⟨[], rfl, by simp, by simp, by simp, w1, ea⟩
    · rintro env' S2 ⟨pv, rfl, hp1, hp2, hp3, w2, ea2⟩
      walk_at "wb"
      refine Cal_of ⟨d, l, _, mk3.map .str, rfl, w2.dr, .inl rfl, by simp [mk3], fun pm ys S3 hy1 hpm hy3 w3 => ?_⟩
      obtain ⟨ms, rfl, hms⟩ := perm_strs hy1
      have ea3 := w3.at (by simp [had]) ea2
      walk_at "wb"
      refine ⟨by omega, fun D hD => LcH_of ?_⟩
      rw [← List.map_append]
      refine lc_mapC (f := headA) (by simp only [List.length_map, List.length_append]; omega) hD (fun x S' Qx hx le r => ?_) ?_
      · obtain ⟨v, hv, rfl⟩ := List.mem_map.mp hx
        simp only [VarR.enc] at r ⊢
        walk_at "wb"
        exact r
      rw [enc_heads]
      have w4 := w3.new (m := .lst (((bx ++ pv).map VarR.name).map .str)) hD
      have ea4 : us S3 D (.lst (((bx ++ pv).map VarR.name).map .str)) a = some (.lst cs) := (Le.new hD) _ _ ea3
      have em4 : us S3 D (.lst (((bx ++ pv).map VarR.name).map .str)) pm = some (.lst (ms.map .str)) := (Le.new hD) _ _ hy3
      have en4 : us S3 D (.lst (((bx ++ pv).map VarR.name).map .str)) D = some (.lst (((bx ++ pv).map VarR.name).map .str)) := us_same
      have hmD : pm ≠ D := sne hy3 hD
      have hdm : d ≠ pm := w2.dr.nd hpm
      have hlm : l ≠ pm := w2.dr.nl hpm
      have hdD : d ≠ D := w3.dr.nd hD
      have hlD : l ≠ D := w3.dr.nl hD
      have hpm0 : S pm = none := by
        cases e : S pm with
        | none => rfl
        | some m =>
          have := w2.at (by simp [hdm.symm]) e
          rw [hpm] at this
          cases this
      generalize us S3 D (.lst (((bx ++ pv).map VarR.name).map .str)) = S4 at w4 ea4 em4 en4 ⊢
      walk_at "wb"
      refine CutH_of (fun env' S' => ∃ (wv : Addr) (s : Int), env' = [some (.ref d), some (.str name), some (.tup [.tup (bx.map VarR.enc), .tup (lk.map .str), .tup qs, .tup bs]), some (.str spare), some (.int steps), some (.str kinds), some (.ref a), some (.tup (pv.map VarR.enc)), some (.ref pm), none, some (.ref D), some (.ref wv), none, none] ∧
        S4 wv = none ∧ S' = us S4 wv (.lst [.tup (bx.map VarR.enc), .tup (lk.map .str), .tup (qs ++ bs), .ref pm, .ref D, .int s])) ?_ ?_
      · walk_at "wb"
        refine ⟨by omega, ?_⟩
        split <;> exact fun p hp => ⟨p, _, rfl, hp, rfl⟩
      · rintro env' S5 ⟨wv, s, rfl, hwv, rfl⟩
        have w5 := (w2.trans w4).new (m := .lst [.tup (bx.map VarR.enc), .tup (lk.map .str), .tup (qs ++ bs), .ref pm, .ref D, .int s]) hwv
        have ew5 : us S4 wv (.lst [.tup (bx.map VarR.enc), .tup (lk.map .str), .tup (qs ++ bs), .ref pm, .ref D, .int s]) wv = some (.lst [.tup (bx.map VarR.enc), .tup (lk.map .str), .tup (qs ++ bs), .ref pm, .ref D, .int s]) := us_same
        have l5 : Le S4 (us S4 wv (.lst [.tup (bx.map VarR.enc), .tup (lk.map .str), .tup (qs ++ bs), .ref pm, .ref D, .int s])) := Le.new hwv
        have hdw : d ≠ wv := w4.dr.nd hwv
        have hmw : pm ≠ wv := sne em4 hwv
        have hDw : D ≠ wv := sne en4 hwv
        have ea5 := l5 _ _ ea4
        have em5 := l5 _ _ em4
        have en5 := l5 _ _ en4
        generalize us S4 wv (.lst [.tup (bx.map VarR.enc), .tup (lk.map .str), .tup (qs ++ bs), .ref pm, .ref D, .int s]) = S5 at w5 ew5 ea5 em5 en5 ⊢
        walk_at "wb"
        refine Cal_of ⟨d, l, _, rfl, w5.dr, by omega, fun r S6 h3 h4 w6 => ?_⟩
        walk_at "wb"
        intro b hb h hh
        have ew6 := w6.at (by simp [hdw.symm]) ew5
        have ea6 := w6.at (by simp [had]) ea5
        have em6 := w6.at (by simp [hdm.symm]) em5
        have en6 := w6.at (by simp [hdD.symm]) en5
        have l7 : Le S6 (us (us S6 b (.lst [.int (1 + r)])) h (.lst [])) := (Le.new hb).trans (Le.new hh)
        have hh0 : S6 h = none := (Le.new hb).none hh
        have hbh : b ≠ h := sne us_same hh
        have eb7 : us (us S6 b (.lst [.int (1 + r)])) h (.lst []) b = some (.lst [.int (1 + r)]) := by rw [us_ne hbh, us_same]
        have eh7 : us (us S6 b (.lst [.int (1 + r)])) h (.lst []) h = some (.lst ([].map .str)) := us_same
        have hmb : pm ≠ b := sne em6 hb
        have hdb : d ≠ b := w6.dr.nd hb
        have hlb : l ≠ b := w6.dr.nl hb
        have hDb : D ≠ b := sne en6 hb
        have hwb : wv ≠ b := sne ew6 hb
        have hdh : d ≠ h := w6.dr.nd hh0
        have hmh : pm ≠ h := sne em6 hh0
        have d7 : Dr d l (us (us S6 b (.lst [.int (1 + r)])) h (.lst [])) := w6.dr.le l7
        have f7 : Fr [d] S (us (us S6 b (.lst [.int (1 + r)])) h (.lst [])) := (w5.trans w6).fr.trans (l7.fr _)
        have hb0 : S b = none := by
          cases e : S b with
          | none => rfl
          | some m =>
            have := (w5.trans w6).at (by simp [hdb.symm]) e
            rw [hb] at this
            cases this
        have ew7 := l7 _ _ ew6
        have ea7 := l7 _ _ ea6
        have em7 := l7 _ _ em6
        have en7 := l7 _ _ en6
        generalize us (us S6 b (.lst [.int (1 + r)])) h (.lst []) = S7 at d7 f7 eb7 eh7 ew7 ea7 em7 en7 ⊢
        have hml : ms.length = 3 := hms.length_eq
        have g7 : Wl ⟨(bx ++ pv).map VarR.name, lk, sn, mk3⟩ d l wv b pm D s S7 (1 + r) ms :=
          { dr := d7, ew := ⟨_, _, ew7, by rw [List.length_append]; omega, hst⟩, eb := eb7, em := em7, enm := en7, db := hdb, lb := hlb, dm := hdm, lm := hlm, bm := hmb.symm, wd := hdw.symm, wb := hwb, wm := hmw.symm, nd := hdD.symm, nb := hDb, nn := hmD.symm
            msub := fun x hx => hms.mem_iff.mp hx, mlen := by omega, nlen := by simp only [List.length_map, List.length_append]; omega, llen := by show lk.length ≤ 100; omega, nne := by simp [hbx] }
        refine Cal_of ⟨_, d, l, wv, b, pm, D, h, s, 0, 1 + r, steps, ms, [], rfl, g7, ⟨eh7, hdh.symm, hbh.symm, hmh.symm⟩, by omega, by omega, by omega, by omega, by simp; omega, fun ls S8 go => ?_⟩
        obtain ⟨bv8, ms8, k1, k2, k3, k4, k5⟩ := go.ex
        have f8 : Fr [d] S S8 := go.fr.drop f7 hb0 hpm0
        have hab : a ≠ b := sne ea6 hb
        have ham : a ≠ pm := sne ea2 hpm
        have ea8 := go.fr _ _ (by simp [had, hab, ham]) ea7
        have em8 := k1.em
        have hok := go.ok
        have hsz : (Stm.sizes ls : Int) + ms8.length ≤ steps + 3 := by omega
        walk_at "wb"
        refine CutH_of (fun env' S' => ∃ way : Int, env' = [some (.ref d), some (.str name), some (.tup [.tup (bx.map VarR.enc), .tup (lk.map .str), .tup qs, .tup bs]), some (.str spare), some (.int steps), some (.str kinds), some (.ref a), some (.tup (pv.map VarR.enc)), some (.ref pm), none, some (.ref D), some (.ref wv), some (encB ls), some (.int way)] ∧ Dw d l [d] S8 S') ?_ ?_
        · walk_at "wb"
          split
          · exact Cal_of ⟨d, l, _, rfl, k1.dr, by omega, fun r2 S9 h5 h6 w9 => ⟨r2, rfl, w9⟩⟩
          · exact ⟨5, rfl, Dw.refl k1.dr _⟩
        rintro env' S9 ⟨way, rfl, w9⟩
        walk_at "wb"
        have hl1 := length_sizes ls
        refine CutH_of (fun env' S' => S' = S9 ∧ ∃ ls2, env' = [some (.ref d), some (.str name), some (.tup [.tup (bx.map VarR.enc), .tup (lk.map .str), .tup qs, .tup bs]), some (.str spare), some (.int steps), some (.str kinds), some (.ref a), some (.tup (pv.map VarR.enc)), some (.ref pm), none, some (.ref D), some (.ref wv), some (encB ls2), some (.int way)] ∧ (∀ x ∈ ls2, StmOk ⟨(bx ++ pv).map VarR.name, lk, sn, mk3⟩ x) ∧ (Stm.sizes ls2 : Int) ≤ Stm.sizes ls + 1) ?_ ?_
        · walk_at "wb"
          split
          · refine ⟨by rw [encs_len]; omega, ls ++ [.stop], ?_, fun x hx => ?_, by rw [sizes_append]; simp only [Stm.sizes, Stm.size]; omega⟩
            · simp only [encB, encs_append]
              rfl
            · rcases List.mem_append.mp hx with hx | hx
              · exact hok x hx
              · rw [List.mem_singleton.mp hx]
                exact .stop
          · exact ⟨ls, rfl, hok, by omega⟩
        rintro env' S' ⟨rfl, ls2, rfl, hok2, hs2⟩
        walk_at "wb"
        have hl2 := length_sizes ls2
        refine CutH_of (fun env' S9 => S9 = S' ∧ ∃ ls3, env' = [some (.ref d), some (.str name), some (.tup [.tup (bx.map VarR.enc), .tup (lk.map .str), .tup qs, .tup bs]), some (.str spare), some (.int steps), some (.str kinds), some (.ref a), some (.tup (pv.map VarR.enc)), some (.ref pm), none, some (.ref D), some (.ref wv), some (encB ls3), some (.int way)] ∧ (∀ x ∈ ls3, StmOk ⟨(bx ++ pv).map VarR.name, lk, sn, mk3⟩ x) ∧ (Stm.sizes ls3 : Int) ≤ Stm.sizes ls + 2) ?_ ?_
        · walk_at "wb"
          split
          · refine ⟨[.lp ls2], rfl, fun x hx => ?_, by simp only [Stm.sizes, Stm.size]; omega⟩
            rw [List.mem_singleton.mp hx]
            exact .lp hok2
          · exact ⟨ls2, rfl, hok2, by omega⟩
        rintro env' S9 ⟨rfl, ls3, rfl, hok3, hs3⟩
        have em9 := w9.at (by simp [hdm.symm]) em8
        have ea9 := w9.at (by simp [had]) ea8
        have hl3 := length_sizes ls3
        walk_at "wb"
        refine CutH_of (fun env' S' => Dw d l [d] S8 S' ∧ ∃ ls4, env' = [some (.ref d), some (.str name), some (.tup [.tup (bx.map VarR.enc), .tup (lk.map .str), .tup qs, .tup bs]), some (.str spare), some (.int steps), some (.str kinds), some (.ref a), some (.tup (pv.map VarR.enc)), some (.ref pm), none, some (.ref D), some (.ref wv), some (encB ls4), some (.int way)] ∧ (∀ x ∈ ls4, StmOk ⟨(bx ++ pv).map VarR.name, lk, sn, mk3⟩ x) ∧ (Stm.sizes ls4 : Int) ≤ Stm.sizes ls + 3) ?_ ?_
        · walk_at "wh"
          split
          · rename_i hm0
            refine Cal_of ⟨d, l, _, rfl, w9.dr, by omega, fun r3 S10 h7 h8 w10 => ?_⟩
            have em10 := w10.at (by simp [hdm.symm]) em9
            walk_at "wb"
            split
            · obtain ⟨z, zr, rfl⟩ : ∃ z zr, ms8 = z :: zr := by
                cases ms8 with
                | nil => simp at hm0
                | cons z zr => exact ⟨z, zr, rfl⟩
              have em10 : S10 pm = some (.lst (.str z :: zr.map .str)) := em10
              walk_at "wh"
              refine ⟨by rw [encs_len]; omega, w9.trans w10, ls3 ++ [.mark z], ?_, fun x hx => ?_, by rw [sizes_append]; simp only [Stm.sizes, Stm.size]; omega⟩
              · simp only [encB, encs_append]
                rfl
              · rcases List.mem_append.mp hx with hx | hx
                · exact hok3 x hx
                · rw [List.mem_singleton.mp hx]
                  exact .mark (k1.msub _ (by simp))
            · exact ⟨w9.trans w10, ls3, rfl, hok3, by omega⟩
          · exact ⟨ls3, rfl, hok3, by omega⟩
        rintro env' S10 ⟨w10, ls4, rfl, hok4, hs4⟩
        have ea10 := w10.at (by simp [had]) ea8
        walk_at "wb"
        refine Cal_of ⟨d, l, _, cs, rfl, w10.dr, .inr ⟨a, rfl, by simp [had], ea10⟩, hne, by omega, fun c S11 hc w11 => ?_⟩
        walk_at "wb"
        exact Ret.at (q ⟨name, c, pv.map VarR.enc, ls4⟩ S11 rfl ⟨hcs c hc, ⟨pv, rfl, hp1, hp2, hp3, hok4⟩, by show (Stm.sizes ls4 : Int) ≤ _; omega⟩ ⟨w11.dr, (f8.trans w10.fr).trans w11.fr⟩)
def sp_program_of (N : Int) : ASp := fun xs S Q => ∃ (d l : Addr) (kinds : Str) (mt steps : Int), xs = [.ref d, .int mt, .int steps, .str kinds] ∧ Dr d l S ∧ 1 ≤ mt ∧ mt ≤ 8 ∧ 1 ≤ steps ∧ steps ≤ N ∧ N ≤ 50 ∧
  ∀ p S', PrgOk kinds mt steps p → Dw d l [d] S S' → Q p.enc S'
theorem ok_program_of {f fd fp fs fr ft fl : Addr} {k : Nat} {N : Int} (T : Txt mg) (D : Df K mg "_law_program_of" s_law_program_of ["d", "most_threads", "most_steps", "kinds"] f) (F_law_draw : Fn P w K mg base 1 "_law_draw" fd sp_draw) (F_law_pick : Fn P w K mg base 2 "_law_pick" fp sp_pick) (F_law_rare : Fn P w K mg base 2 "_law_rare" fr sp_rare)
    (F_law_shuffled : Fn P w K mg base 2 "_law_shuffled" fs sp_shuffled) (F_law_pool : Fn P w K mg base 1 "_law_pool" fl sp_pool) (F_law_thread : Fn P w K mg base (k + 2) "_law_thread" ft (sp_thread N)) : Fn P w K mg base (k + 3) "_law_program_of" f (sp_program_of N) := by
  refine D.ok sc_law_program_of (fun xs S Q ⟨d, l, kinds, mt, steps, e, _⟩ => by rw [e]; rfl) fun cdv A0 outer s0 H E hr => ⟨_,
(ass_cons (as_set 4 sc_law_program_of.nd (ae_call F_law_shuffled hr (by omega) (by rfl) (aa_cons (ae_var 0) (aa_cons (ae_call0 F_law_pool hr (by omega) (by rfl)) aa_nil))))
  (ass_cons (as_set 5 sc_law_program_of.nd (ae_tup aa_nil))
  (ass_cons (as_for (ws := [6]) PassesOwn.never rfl (ai_range1 (by rfl) T.b_range (aa_cons (ae_op oa_add ae_int (ae_call F_law_draw hr (by omega) (by rfl) (aa_cons (ae_var 0) (aa_cons ae_int aa_nil)))) aa_nil)) (ag_name 6 sc_law_program_of.nd)
  (ass_cons (as_set 7 sc_law_program_of.nd (ae_call F_law_draw hr (by omega) (by rfl) (aa_cons (ae_var 0) (aa_cons ae_int aa_nil))))
  (ass_cut (as_set 8 sc_law_program_of.nd (ae_op oa_add ae_int (ae_if (at_val (ae_call F_law_rare hr (by omega) (by rfl) (aa_cons (ae_var 0) (aa_cons ae_int aa_nil)))) ae_int ae_int)))
  (ass_one (as_set 5 sc_law_program_of.nd (ae_op oa_add (ae_var 5) (ae_tup (aa_cons (ae_tup (aa_cons (ae_lm0 PySem.F.slot_list_pop PySem.F.type_list_pop ma_pop (ae_var 4)) (aa_cons (ae_var 7) (aa_cons (ae_op oa_sub (ae_op oa_add (ae_var 7) (ae_var 8)) ae_int) (aa_cons (ae_op oa_add (ae_var 7) (ae_call F_law_draw hr (by omega) (by rfl) (aa_cons (ae_var 0) (aa_cons (ae_var 8) aa_nil)))) aa_nil))))) aa_nil))))))))
  (ass_cut (as_set 9 sc_law_program_of.nd (ae_if (at_w (aw_and (at_cmp oa_in ae_str (ae_var 3)) (aw_and1 (at_cmp (oa_eq hr.units) (ae_call F_law_draw hr (by omega) (by rfl) (aa_cons (ae_var 0) (aa_cons ae_int aa_nil))) ae_int)))) (ae_tup (aa_cons (ae_lm0 PySem.F.slot_list_pop PySem.F.type_list_pop ma_pop (ae_var 4)) aa_nil)) (ae_tup aa_nil)))
  (ass_cons (as_set 10 sc_law_program_of.nd (ae_tup aa_nil))
  (ass_cons (as_set 11 sc_law_program_of.nd (ae_tup aa_nil))
  (ass_cut (as_if (at_w (aw_and (at_cmp oa_in ae_str (ae_var 3)) (aw_and1 (at_cmp (oa_eq hr.units) (ae_call F_law_draw hr (by omega) (by rfl) (aa_cons (ae_var 0) (aa_cons ae_int aa_nil))) ae_int))))
  (ass_one (as_set 10 sc_law_program_of.nd (ae_tup (aa_cons (ae_tup (aa_cons (ae_lm0 PySem.F.slot_list_pop PySem.F.type_list_pop ma_pop (ae_var 4)) (aa_cons ae_int (aa_cons ae_int (aa_cons (ae_op oa_add ae_int (ae_call F_law_draw hr (by omega) (by rfl) (aa_cons (ae_var 0) (aa_cons ae_int aa_nil)))) aa_nil))))) aa_nil))))
  ass_nil)
  (ass_cut (as_if (at_w (aw_and (at_cmp oa_in ae_str (ae_var 3)) (aw_and1 (at_cmp (oa_eq hr.units) (ae_call F_law_draw hr (by omega) (by rfl) (aa_cons (ae_var 0) (aa_cons ae_int aa_nil))) ae_int))))
  (ass_one (as_set 11 sc_law_program_of.nd (ae_tup (aa_cons (ae_tup (aa_cons (ae_lm0 PySem.F.slot_list_pop PySem.F.type_list_pop ma_pop (ae_var 4)) (aa_cons ae_int (aa_cons (ae_call F_law_draw hr (by omega) (by rfl) (aa_cons (ae_var 0) (aa_cons ae_int aa_nil))) (aa_cons (ae_if (at_cmp oa_in ae_str (ae_var 3)) (ae_call F_law_pick hr (by omega) (by rfl) (aa_cons (ae_var 0) (aa_cons (ae_tup (aa_cons ae_int (aa_cons ae_int (aa_cons ae_non aa_nil)))) aa_nil))) ae_int) aa_nil))))) aa_nil))))
  ass_nil)
  (ass_cons (as_set 12 sc_law_program_of.nd (ae_tup (aa_cons (ae_var 5) (aa_cons (ae_var 9) (aa_cons (ae_var 10) (aa_cons (ae_var 11) aa_nil))))))
  (ass_cons (as_set 13 sc_law_program_of.nd (ae_tup aa_nil))
  (ass_cons (as_for (ws := [6]) PassesOwn.never rfl (ai_range1 (by rfl) T.b_range (aa_cons (ae_op oa_add ae_int (ae_call F_law_draw hr (by omega) (by rfl) (aa_cons (ae_var 0) (aa_cons (ae_var 1) aa_nil)))) aa_nil)) (ag_name 6 sc_law_program_of.nd)
  (ass_cons (as_set 14 sc_law_program_of.nd (ae_lm0 PySem.F.slot_list_pop PySem.F.type_list_pop ma_pop (ae_var 4)))
  (ass_one (as_set 13 sc_law_program_of.nd (ae_op oa_add (ae_var 13) (ae_tup (aa_cons (ae_call F_law_thread hr (by omega) (by rfl) (aa_cons (ae_var 0) (aa_cons (ae_var 14) (aa_cons (ae_var 12) (aa_cons (ae_lm0 PySem.F.slot_list_pop PySem.F.type_list_pop ma_pop (ae_var 4)) (aa_cons (ae_var 2) (aa_cons (ae_var 3) aa_nil))))))) aa_nil)))))))
  (ass_one (as_ret (ae_tup (aa_cons (ae_lm0 PySem.F.slot_list_pop PySem.F.type_list_pop ma_pop (ae_var 4)) (aa_cons (ae_var 5) (aa_cons (ae_var 9) (aa_cons (ae_var 10) (aa_cons (ae_var 11) (aa_cons (ae_var 13) aa_nil)))))))))))))))))))), ?_⟩
  rintro xs S Q ⟨d, l, kinds, mt, steps, rfl, hd, h1, h2, h3, h4, h5, q⟩
  walk_at "wb"
  refine Cal_of ⟨rfl, ?_⟩
  walk_at "wb"
  refine Cal_of ⟨d, l, _, poolM.map .str, rfl, hd, .inl rfl, by rw [List.length_map, poolM_len]; omega, fun p ys S1 hp1 hp2 hp3 w1 => ?_⟩
  obtain ⟨zs, rfl, hzs⟩ := perm_strs hp1
  have n1 : Nm d l p S1 40 := { dr := w1.dr, ex := ⟨zs, hp3, by rw [hzs.length_eq, poolM_len]; omega, by rw [hzs.length_eq, poolM_len]; omega⟩, dp := hd.nd hp2, lp := hd.nl hp2 }
  have f1 : Fr [d, p] S S1 := w1.fr.mono (by simp)
  walk_at "wb"
  refine Cal_of ⟨d, l, _, rfl, n1.dr, by omega, fun r S2 h6 h7 w2 => ?_⟩
  have n2 := n1.dw w2
  have f2 : Fr [d, p] S S2 := f1.trans (w2.fr.mono (by simp))
  walk_at "wb"
  obtain ⟨rn, rfl⟩ := Int.eq_ofNat_of_zero_le h6
  have er : 1 + (rn : Int) = ((1 + rn : Nat) : Int) := by omega
  rw [er]
  refine ⟨by omega, by omega, LoopH_of (for_R0 (fun i env S' => ∃ (bx : List VarR) (x y z : Option A), env = [some (.ref d), some (.int mt), some (.int steps), some (.str kinds), some (.ref p), some (.tup (bx.map VarR.enc)), x, y, z, none, none, none, none, none, none] ∧ bx.length = i ∧ (∀ v ∈ bx, VarR.ok v) ∧ Nm d l p S' (40 - i) ∧ Fr [d, p] S S') ⟨[], none, none, none, rfl, rfl, by simp, n2, f2⟩ ?_ ?_)⟩
  · rintro i env S3 hi ⟨bx, x, y, z, rfl, hbl, hbo, n3, f3⟩
    walk_at "wb"
    refine Cal_of ⟨d, l, _, rfl, n3.dr, by omega, fun low S4 h8 h9 w4 => ?_⟩
    walk_at "wb"
    refine CutH_of (fun env' S' => ∃ size : Int, 2 ≤ size ∧ size ≤ 3 ∧ env' = [some (.ref d), some (.int mt), some (.int steps), some (.str kinds), some (.ref p), some (.tup (bx.map VarR.enc)), some (.int (i : Nat)), some (.int low), some (.int size), none, none, none, none, none, none] ∧ Dw d l [d] S4 S') ?_ ?_
    · walk_at "wb"
      refine Cal_of ⟨d, l, _, rfl, w4.dr, by omega, fun b S5 w5 => ?_⟩
      cases b with
      | true =>
        walk_at "wb"
        exact ⟨3, by omega, by omega, rfl, w5⟩
      | false =>
        walk_at "wb"
        exact ⟨2, by omega, by omega, rfl, w5⟩
    rintro env' S5 ⟨size, hs1, hs2, rfl, w5⟩
    have f5 : Fr [d, p] S S5 := (f3.trans (w4.fr.mono (by simp))).trans (w5.fr.mono (by simp))
    have n5 : Nm d l p S5 ((40 - i - 1) + 1) := by
      have e : 40 - i - 1 + 1 = 40 - i := by omega
      rw [e]
      exact (n3.dw w4).dw w5
    obtain ⟨rest, z, e1, e2, n6⟩ := n5.pop
    walk_at "wh"
    refine Cal_of ⟨d, l, _, rfl, n6.dr, by omega, fun dl S6 h10 h11 w6 => ?_⟩
    walk_at "wb"
    refine ⟨by omega, bx ++ [⟨z, low, low + size - 1, low + dl⟩], some (.int (i : Nat)), some (.int low), some (.int size), ?_, ?_, ?_, ?_, ?_⟩
    · simp [VarR.enc]
    · simp [hbl]
    · intro v hv
      rcases List.mem_append.mp hv with hv | hv
      · exact hbo v hv
      · rw [List.mem_singleton.mp hv]
        simp only [VarR.ok]
        omega
    · have e : 40 - (i + 1) = 40 - i - 1 := by omega
      rw [e]
      exact n6.dw w6
    · exact ((f5.put (by simp)).trans (w6.fr.mono (by simp)))
  rintro env S3 ⟨bx, x, y, z, rfl, hbl, hbo, n3, f3⟩
  have n3 : Nm d l p S3 (37 + 1) := n3.weak (by omega)
  walk_at "wb"
  refine CutH_of (fun env' S' => ∃ lk : List Str, lk.length ≤ 1 ∧ env' = [some (.ref d), some (.int mt), some (.int steps), some (.str kinds), some (.ref p), some (.tup (bx.map VarR.enc)), x, y, z, some (.tup (lk.map .str)), none, none, none, none, none] ∧ Nm d l p S' 37 ∧ Fr [d, p] S S') ?_ ?_
  · walk_at "wb"
    split
    · refine Cal_of ⟨d, l, _, rfl, n3.dr, by omega, fun r2 S5 h8 h9 w5 => ?_⟩
      have f5 : Fr [d, p] S S5 := f3.trans (w5.fr.mono (by simp))
      walk_at "wb"
      split
      · obtain ⟨rest, zz, e1, e2, n6⟩ := (n3.dw w5).pop
        walk_at "wh"
        exact ⟨[zz], by simp, rfl, f5.put (by simp)⟩
      · exact ⟨[], by simp, rfl, (n3.dw w5).weak (by omega), f5⟩
    · exact ⟨[], by simp, rfl, n3.weak (by omega), f3⟩
  rintro env' S4 ⟨lk, hlk, rfl, n4, f4⟩
  have n4 : Nm d l p S4 (36 + 1) := n4
  walk_at "wb"
  refine CutH_of (fun env' S' => ∃ qs : List VarR, qs.length ≤ 1 ∧ (∀ v ∈ qs, v.lo = 0 ∧ v.hi = 1 ∧ 1 ≤ v.st ∧ v.st ≤ 2) ∧ env' = [some (.ref d), some (.int mt), some (.int steps), some (.str kinds), some (.ref p), some (.tup (bx.map VarR.enc)), x, y, z, some (.tup (lk.map .str)), some (.tup (qs.map VarR.enc)), some (.tup []), none, none, none] ∧ Nm d l p S' 36 ∧ Fr [d, p] S S') ?_ ?_
  · walk_at "wb"
    split
    · refine Cal_of ⟨d, l, _, rfl, n4.dr, by omega, fun r2 S5 h8 h9 w5 => ?_⟩
      have f5 : Fr [d, p] S S5 := f4.trans (w5.fr.mono (by simp))
      walk_at "wb"
      split
      · obtain ⟨rest, zz, e1, e2, n6⟩ := (n4.dw w5).pop
        walk_at "wh"
        refine Cal_of ⟨d, l, _, rfl, n6.dr, by omega, fun r3 S6 h10 h11 w6 => ?_⟩
        walk_at "wb"
        exact ⟨[⟨zz, 0, 1, 1 + r3⟩], by simp, fun v hv => by
          rw [List.mem_singleton.mp hv]
          exact ⟨rfl, rfl, by show 1 ≤ 1 + r3; omega, by show 1 + r3 ≤ 2; omega⟩, rfl, n6.dw w6, (f5.put (by simp)).trans (w6.fr.mono (by simp))⟩
      · exact ⟨[], by simp, by simp, rfl, (n4.dw w5).weak (by omega), f5⟩
    · exact ⟨[], by simp, by simp, rfl, n4.weak (by omega), f4⟩
  rintro env' S5 ⟨qs, hql, hqs, rfl, n5, f5⟩
  have n5 : Nm d l p S5 (35 + 1) := n5
  walk_at "wb"
  refine CutH_of (fun env' S' => ∃ bs : List BagR, bs.length ≤ 1 ∧ (∀ v ∈ bs, 0 ≤ v.hi ∧ v.hi ≤ 1 ∧ (v.cap = .int 1 ∨ (v.cap = .int 2 ∨ v.cap = .non) ∧ strIn (Str.ofString "o") kinds = true)) ∧ env' = [some (.ref d), some (.int mt), some (.int steps), some (.str kinds), some (.ref p), some (.tup (bx.map VarR.enc)), x, y, z, some (.tup (lk.map .str)), some (.tup (qs.map VarR.enc)), some (.tup (bs.map BagR.enc)), none, none, none] ∧ Nm d l p S' 35 ∧ Fr [d, p] S S') ?_ ?_
  · walk_at "wb"
    split
    · refine Cal_of ⟨d, l, _, rfl, n5.dr, by omega, fun r2 S6 h8 h9 w6 => ?_⟩
      have f6 : Fr [d, p] S S6 := f5.trans (w6.fr.mono (by simp))
      walk_at "wb"
      split
      · obtain ⟨rest, zz, e1, e2, n7⟩ := (n5.dw w6).pop
        walk_at "wh"
        refine Cal_of ⟨d, l, _, rfl, n7.dr, by omega, fun r3 S7 h10 h11 w7 => ?_⟩
        have f7 : Fr [d, p] S S7 := (f6.put (by simp)).trans (w7.fr.mono (by simp))
        have n8 := n7.dw w7
        walk_at "wb"
        split
        · rename_i ho
          refine Cal_of ⟨d, l, _, _, rfl, n8.dr, .inl rfl, by simp, by simp, fun c S8 hc w8 => ?_⟩
          walk_at "wb"
          refine ⟨[⟨zz, r3, c⟩], by simp, fun v hv => ?_, rfl, n8.dw w8, f7.trans (w8.fr.mono (by simp))⟩
          rw [List.mem_singleton.mp hv]
          refine ⟨h10, by show r3 ≤ 1; omega, ?_⟩
          simp only [List.mem_cons, List.not_mem_nil, or_false] at hc
          rcases hc with rfl | rfl | rfl
          · exact .inl rfl
          · exact .inr ⟨.inl rfl, ho⟩
          · exact .inr ⟨.inr rfl, ho⟩
        · refine ⟨[⟨zz, r3, .int 1⟩], by simp, fun v hv => ?_, rfl, n8, f7⟩
          rw [List.mem_singleton.mp hv]
          exact ⟨h10, by show r3 ≤ 1; omega, .inl rfl⟩
      · exact ⟨[], by simp, by simp, rfl, (n5.dw w6).weak (by omega), f6⟩
    · exact ⟨[], by simp, by simp, rfl, n5.weak (by omega), f5⟩
  rintro env' S6 ⟨bs, hbsl, hbs, rfl, n6, f6⟩
  walk_at "wb"
  refine Cal_of ⟨d, l, _, rfl, n6.dr, by omega, fun r4 S7 h8 h9 w7 => ?_⟩
  have n7 := n6.dw w7
  have f7 : Fr [d, p] S S7 := f6.trans (w7.fr.mono (by simp))
  walk_at "wb"
  obtain ⟨tn, rfl⟩ := Int.eq_ofNat_of_zero_le h8
  have et : 1 + (tn : Int) = ((1 + tn : Nat) : Int) := by omega
  rw [et]
  have hst : ∀ x ∈ qs.map VarR.enc ++ bs.map BagR.enc, ∃ q r, x = A.tup (A.str q :: r) ∧ q ∈ qs.map VarR.name ++ bs.map BagR.name := fun x hx => by
    rcases List.mem_append.mp hx with hx | hx
    · obtain ⟨v, hv, rfl⟩ := List.mem_map.mp hx
      exact ⟨v.name, _, rfl, List.mem_append.mpr (.inl (List.mem_map.mpr ⟨v, hv, rfl⟩))⟩
    · obtain ⟨v, hv, rfl⟩ := List.mem_map.mp hx
      exact ⟨v.name, _, rfl, List.mem_append.mpr (.inr (List.mem_map.mpr ⟨v, hv, rfl⟩))⟩
  have hbx1 : 1 ≤ bx.length ∧ bx.length ≤ 2 := by omega
  refine ⟨by omega, by omega, LoopH_of (for_R0 (fun i env S' => ∃ (ts : List Thr) (u v : Option A), env = [some (.ref d), some (.int mt), some (.int steps), some (.str kinds), some (.ref p), some (.tup (bx.map VarR.enc)), u, y, z, some (.tup (lk.map .str)), some (.tup (qs.map VarR.enc)), some (.tup (bs.map BagR.enc)), some (.tup [.tup (bx.map VarR.enc), .tup (lk.map .str), .tup (qs.map VarR.enc), .tup (bs.map BagR.enc)]), some (.tup (ts.map Thr.enc)), v] ∧ ts.length = i ∧ (∀ t ∈ ts, ThrOk kinds bx lk (qs.map VarR.name ++ bs.map BagR.name) steps t) ∧ Nm d l p S' (35 - 2 * i) ∧ Fr [d, p] S S') ⟨[], x, none, rfl, rfl, by simp, n7, f7⟩ ?_ ?_)⟩
  · rintro i env S8 hi ⟨ts, u, v, rfl, htl, hto, n8, f8⟩
    have n8 : Nm d l p S8 ((35 - 2 * i - 2 + 1) + 1) := n8.weak (by omega)
    obtain ⟨rest, z1, e1, e2, n9⟩ := n8.pop
    obtain ⟨rest2, z2, e3, e4, n10⟩ := n9.pop
    have e5 : (rest.map A.str).dropLast = rest2.map A.str := by
      rw [us_same] at e3
      exact MO.lst.inj (Option.some.inj e3)
    rw [e5, us_us] at n10
    rw [us_same] at e3
    clear e3
    walk_at "wh"
    have f9 : Fr [d, p] S (us S8 p (.lst (rest2.map A.str).dropLast)) := f8.put (by simp)
    refine Cal_of ⟨d, l, z1, z2, kinds, bx, lk, _, _, _, steps, rfl, n10.dr, fun e => by rw [e] at hbx1; simp at hbx1, by omega, by omega, by simp only [List.length_map]; omega, by simp only [List.length_map]; omega, hst, h3, h4, h5, fun t S9 hn ht w9 => ?_⟩
    walk_at "wb"
    refine ⟨by omega, ts ++ [t], some (.int (i : Nat)), some (.str z1), ?_, by simp [htl], fun t' ht' => ?_, (n10.dw w9).weak (by omega), f9.trans (w9.fr.mono (by simp))⟩
    · rw [List.map_append]
      rfl
    · rcases List.mem_append.mp ht' with ht' | ht'
      · exact hto t' ht'
      · rw [List.mem_singleton.mp ht']
        exact ht
  rintro env S8 ⟨ts, u, v, rfl, htl, hto, n8, f8⟩
  have n8 : Nm d l p S8 (0 + 1) := n8.weak (by omega)
  obtain ⟨rest, z1, e1, e2, n9⟩ := n8.pop
  walk_at "wh"
  refine Ret.at (q ⟨z1, bx.map VarR.enc, lk.map .str, qs.map VarR.enc, bs.map BagR.enc, ts⟩ _ ⟨bx, qs, bs, lk, rfl, rfl, rfl, rfl, hbx1.1, hbx1.2, hlk, hql, hbsl, hbo, hqs, hbs, ?_, ?_, hto⟩ ⟨n9.dr, (f8.put (by simp)).drop1 hp2⟩)
  · show 1 ≤ ts.length
    omega
  · show (ts.length : Int) ≤ mt
    omega
end
end K77

set_option Elab.async false
set_option maxRecDepth 100000
set_option maxHeartbeats 8000000
set_option linter.all false
namespace K77
open PySem L2 WA
section
variable {P : Program} {w : World} {K : PySem.W.Frag} {mg : Str → Option Value} {base : Heap}
abbrev s_law : Stmt := topS 32
abbrev N_law : List Str := ["script", "d", "program", "name", "boxes", "locks", "queues", "bags", "threads", "due", "at", "body", "row", "number", "fewer", "told"]
theorem sc_law : FnScope N_law ["script"] (defScope s_law) := ⟨rfl, rfl, rfl, by decide +kernel, rfl, by decide +kernel, by decide +kernel⟩

theorem prg_ok {kinds : Str} {p : Prog} (h : PrgOk kinds 3 4 p) : Prog.ok p 11 := by
  obtain ⟨bx, qs, bs, lk, e1, e2, e3, e4, h1, h2, h3, h4, h5, _, _, _, h6, h7, h8⟩ := h.ex
  refine ⟨by omega, by rw [e1, List.length_map]; omega, by rw [e2, List.length_map]; omega, by rw [e3, List.length_map]; omega, by rw [e4, List.length_map]; omega, fun t ht => ?_⟩
  have ho := h8 t ht
  have hs := ho.size
  obtain ⟨pv, e, hp, _⟩ := ho.ex
  exact ⟨by omega, by omega, by rw [e, List.length_map]; omega⟩
theorem rng_zip {α : Type} (l : List α) (g : Nat → Prog) : (List.range l.length).map (fun i => (g i).enc) = (l.zipIdx.map fun z => g z.2).map Prog.enc := by
  rw [List.map_map, List.range_eq_range', ← List.zipIdx_map_snd 0 l, List.map_map]
  rfl
def sp_law : ASp := fun xs S Q => ∃ ns : List Int, xs = [.fl (ns.map .int)] ∧ ns.length ≤ 63 ∧ ∀ S', Q (.bl true) S'
theorem def_okF {x : Str} {st : Stmt} {f : Addr} {fd : FuncData} {N ps : List Str} {k : Nat} {sp : ASp} (F : L2.Fun K x x st f fd) (S : FnScope N ps (defScope st)) (len : ∀ xs S Q, sp xs S Q → xs.length = ps.length)
    (hbody : ∀ (cdv : Value) (A : Around) (outer : List Env) (s : Shared) (H : Hp) (E : XK), Room k (A.deeper (PyProof.Rows.envOfC x (defScope st) s.heap.objs.size f cdv)) → ∃ t : ATS, ASs (cxOf CX0 P w K mg base N x (defScope st) f cdv A outer s H E).nox (defBody st) t ∧
      ∀ xs S Q, sp xs S Q → t { nx := fun _ S' => Ret Q .non S', rt := Ret Q } (startA N.length xs) S) : FnOk P w K mg base CX0 (k + 1) f fd ps (liftSp K sp) := by
  refine F.ok S (fun vs H Q E ⟨xs, S, Q', r, rs, h, _⟩ => r.length.trans (len xs S Q' h)) (fun cdv A outer s H vs Q E hr ⟨xs, S0, Q', r, rs, h, kk⟩ => ?_)
  obtain ⟨t, ht, q⟩ := hbody cdv A outer s H E hr
  refine ⟨_, ht, startA N.length xs, S0, _, start_ra r N, rs, q xs S0 Q' h, ?_⟩
  exact ⟨fun env S' σ H' t r' rs' ⟨S1, l, q⟩ => kk .non H' .non S1 t rfl (rs'.le l) q, fun x S' v H' t r' rs' ⟨S1, l, q⟩ => kk v H' x S1 t r' (rs'.le l) q, fun _ _ _ _ _ _ _ q => q.elim, fun _ _ _ _ _ _ _ q => q.elim⟩
theorem ok_law {f fb fp f1 f2 fw fo fc : Addr} {fd : FuncData} {k : Nat} (T : Txt mg) (D : L2.Fun K "law" "law" s_law f fd) (hm : mg "law" = some (.ref f)) (bL : Binds K fd ["script"] []) (F_law_begin : Fn P w K mg base 1 "_law_begin" fb sp_begin) (F_law_program_of : Fn P w K mg base k "_law_program_of" fp (sp_program_of 4)) (F_law_shorter : Fn P w K mg base k "_law_shorter" f1 (sp_ch (remM 11) 11)) (F_law_unframed : Fn P w K mg base k "_law_unframed" f2 (sp_ch (hoiM 11) 11))
    (F_law_with_body : Fn P w K mg base 1 "_law_with_body" fw sp_law_with_body) (F_law_out : Fn P w K mg base 1 "_law_out" fo sp_without) (F_cuts : Fn P w K mg base k "cuts" fc (sp_cuts 11)) (hk : 1 ≤ k) : FnOk P w K mg base CX0 (k + 1) f fd ["script"] (liftSp K sp_law) := by
  refine def_okF D sc_law (fun xs S Q ⟨ns, e, _⟩ => by rw [e]; rfl) fun cdv A0 outer s0 H E hr => ⟨_,
(ass_cons (as_set 1 sc_law.nd (ae_call F_law_begin hr (by omega) (by rfl) (aa_cons (ae_var 0) aa_nil)))
  (ass_cons (as_set 2 sc_law.nd (ae_call F_law_program_of hr (by omega) (by rfl) (aa_cons (ae_var 1) (aa_cons ae_int (aa_cons ae_int (aa_cons ae_str aa_nil))))))
  (ass_cons (as_asg (ws := [3, 4, 5, 6, 7, 8]) (ae_var 2) (ag_tup (n := 6) rfl (ags_cons (ag_name 3 sc_law.nd) (ags_cons (ag_name 4 sc_law.nd) (ags_cons (ag_name 5 sc_law.nd) (ags_cons (ag_name 6 sc_law.nd) (ags_cons (ag_name 7 sc_law.nd) (ags_cons (ag_name 8 sc_law.nd) ags_nil))))))))
  (ass_cons (as_set 9 sc_law.nd (ae_lst aa_nil))
  (ass_cut (as_if (at_cmp oa_gt (ae_callB ca_len (by rfl) T.b_len PySem.boot_len (aa_cons (ae_var 8) aa_nil)) ae_int)
  (ass_one (as_setLc 9 (own := [("at", 10)]) rfl sc_law.nd rfl rfl (sw_true rfl rfl rfl (by decide +kernel)) (ai_range1 (by rfl) T.b_range (aa_cons (ae_callB ca_len (by rfl) T.b_len PySem.boot_len (aa_cons (ae_var 8) aa_nil)) aa_nil)) (blkOk_by (own := [("at", 10)]) (N := N_law) (sc := defScope s_law) (by decide +kernel)) (fun _ _ _ _ _ => (ag_name 10 sc_law.nd)) (fun _ _ _ _ _ => ats_nil) (fun _ _ _ _ _ => (ae_tup (aa_cons (ae_var 3) (aa_cons (ae_var 4) (aa_cons (ae_var 5) (aa_cons (ae_var 6) (aa_cons (ae_var 7) (aa_cons (ae_call F_law_out hr (by omega) (by rfl) (aa_cons (ae_var 8) (aa_cons (ae_var 10) aa_nil))) aa_nil))))))))))
  ass_nil)
  (ass_cons (as_for (ws := [10]) PassesOwn.never rfl (ai_range1 (by rfl) T.b_range (aa_cons (ae_callB ca_len (by rfl) T.b_len PySem.boot_len (aa_cons (ae_var 8) aa_nil)) aa_nil)) (ag_name 10 sc_law.nd)
  (ass_one (as_set 9 sc_law.nd (ae_op oa_add (ae_var 9) (ae_lc (own := [("body", 11)]) rfl sc_law.nd (ai_seq (ae_call F_law_shorter hr (by omega) (by rfl) (aa_cons (ae_ix ia_seq (ae_ix ia_seq (ae_var 8) (ae_var 10)) ae_int) aa_nil))) (blkOk_by (own := [("body", 11)]) (N := N_law) (sc := defScope s_law) (by decide +kernel)) (fun _ _ _ _ _ => (ag_name 11 sc_law.nd)) (fun _ _ _ _ _ => ats_nil) (fun _ _ _ _ _ => (ae_call F_law_with_body hr (by omega) (by rfl) (aa_cons (ae_var 2) (aa_cons (ae_var 10) (aa_cons (ae_var 11) aa_nil))))))))))
  (ass_cons (as_for (ws := [10]) PassesOwn.never rfl (ai_range1 (by rfl) T.b_range (aa_cons (ae_callB ca_len (by rfl) T.b_len PySem.boot_len (aa_cons (ae_var 8) aa_nil)) aa_nil)) (ag_name 10 sc_law.nd)
  (ass_one (as_set 9 sc_law.nd (ae_op oa_add (ae_var 9) (ae_lc (own := [("body", 11)]) rfl sc_law.nd (ai_seq (ae_call F_law_unframed hr (by omega) (by rfl) (aa_cons (ae_ix ia_seq (ae_ix ia_seq (ae_var 8) (ae_var 10)) ae_int) aa_nil))) (blkOk_by (own := [("body", 11)]) (N := N_law) (sc := defScope s_law) (by decide +kernel)) (fun _ _ _ _ _ => (ag_name 11 sc_law.nd)) (fun _ _ _ _ _ => ats_nil) (fun _ _ _ _ _ => (ae_call F_law_with_body hr (by omega) (by rfl) (aa_cons (ae_var 2) (aa_cons (ae_var 10) (aa_cons (ae_var 11) aa_nil))))))))))
  (ass_cons (as_set 9 sc_law.nd (ae_op oa_add (ae_var 9) (ae_lc (own := [("at", 10)]) rfl sc_law.nd (ai_range1 (by rfl) T.b_range (aa_cons (ae_callB ca_len (by rfl) T.b_len PySem.boot_len (aa_cons (ae_var 4) aa_nil)) aa_nil)) (blkOk_by (own := [("at", 10)]) (N := N_law) (sc := defScope s_law) (by decide +kernel)) (fun _ _ _ _ _ => (ag_name 10 sc_law.nd)) (fun _ _ _ _ _ => ats_nil) (fun _ _ _ _ _ => (ae_tup (aa_cons (ae_var 3) (aa_cons (ae_call F_law_out hr (by omega) (by rfl) (aa_cons (ae_var 4) (aa_cons (ae_var 10) aa_nil))) (aa_cons (ae_var 5) (aa_cons (ae_var 6) (aa_cons (ae_var 7) (aa_cons (ae_var 8) aa_nil)))))))))))
  (ass_cons (as_set 9 sc_law.nd (ae_op oa_add (ae_var 9) (ae_lc (own := [("at", 10)]) rfl sc_law.nd (ai_range1 (by rfl) T.b_range (aa_cons (ae_callB ca_len (by rfl) T.b_len PySem.boot_len (aa_cons (ae_var 5) aa_nil)) aa_nil)) (blkOk_by (own := [("at", 10)]) (N := N_law) (sc := defScope s_law) (by decide +kernel)) (fun _ _ _ _ _ => (ag_name 10 sc_law.nd)) (fun _ _ _ _ _ => ats_nil) (fun _ _ _ _ _ => (ae_tup (aa_cons (ae_var 3) (aa_cons (ae_var 4) (aa_cons (ae_call F_law_out hr (by omega) (by rfl) (aa_cons (ae_var 5) (aa_cons (ae_var 10) aa_nil))) (aa_cons (ae_var 6) (aa_cons (ae_var 7) (aa_cons (ae_var 8) aa_nil)))))))))))
  (ass_cons (as_set 9 sc_law.nd (ae_op oa_add (ae_var 9) (ae_lc (own := [("at", 10)]) rfl sc_law.nd (ai_range1 (by rfl) T.b_range (aa_cons (ae_callB ca_len (by rfl) T.b_len PySem.boot_len (aa_cons (ae_var 6) aa_nil)) aa_nil)) (blkOk_by (own := [("at", 10)]) (N := N_law) (sc := defScope s_law) (by decide +kernel)) (fun _ _ _ _ _ => (ag_name 10 sc_law.nd)) (fun _ _ _ _ _ => ats_nil) (fun _ _ _ _ _ => (ae_tup (aa_cons (ae_var 3) (aa_cons (ae_var 4) (aa_cons (ae_var 5) (aa_cons (ae_call F_law_out hr (by omega) (by rfl) (aa_cons (ae_var 6) (aa_cons (ae_var 10) aa_nil))) (aa_cons (ae_var 7) (aa_cons (ae_var 8) aa_nil)))))))))))
  (ass_cons (as_set 9 sc_law.nd (ae_op oa_add (ae_var 9) (ae_lc (own := [("at", 10)]) rfl sc_law.nd (ai_range1 (by rfl) T.b_range (aa_cons (ae_callB ca_len (by rfl) T.b_len PySem.boot_len (aa_cons (ae_var 7) aa_nil)) aa_nil)) (blkOk_by (own := [("at", 10)]) (N := N_law) (sc := defScope s_law) (by decide +kernel)) (fun _ _ _ _ _ => (ag_name 10 sc_law.nd)) (fun _ _ _ _ _ => ats_nil) (fun _ _ _ _ _ => (ae_tup (aa_cons (ae_var 3) (aa_cons (ae_var 4) (aa_cons (ae_var 5) (aa_cons (ae_var 6) (aa_cons (ae_call F_law_out hr (by omega) (by rfl) (aa_cons (ae_var 7) (aa_cons (ae_var 10) aa_nil))) (aa_cons (ae_var 8) aa_nil)))))))))))
  (ass_cons (as_for (ws := [10]) PassesOwn.never rfl (ai_range1 (by rfl) T.b_range (aa_cons (ae_callB ca_len (by rfl) T.b_len PySem.boot_len (aa_cons (ae_var 8) aa_nil)) aa_nil)) (ag_name 10 sc_law.nd)
  (ass_cons (as_set 12 sc_law.nd (ae_ix ia_seq (ae_var 8) (ae_var 10)))
  (ass_one (as_for (ws := [13]) PassesOwn.never rfl (ai_range1 (by rfl) T.b_range (aa_cons (ae_callB ca_len (by rfl) T.b_len PySem.boot_len (aa_cons (ae_ix ia_seq (ae_var 12) ae_int) aa_nil)) aa_nil)) (ag_name 13 sc_law.nd)
  (ass_cons (as_set 14 sc_law.nd (ae_op oa_add (ae_op oa_add (ae_slice (ae_var 8) ap_none (ap_some (ae_var 10))) (ae_tup (aa_cons (ae_tup (aa_cons (ae_ix ia_seq (ae_var 12) ae_int) (aa_cons (ae_ix ia_seq (ae_var 12) ae_int) (aa_cons (ae_call F_law_out hr (by omega) (by rfl) (aa_cons (ae_ix ia_seq (ae_var 12) ae_int) (aa_cons (ae_var 13) aa_nil))) (aa_cons (ae_ix ia_seq (ae_var 12) ae_int) aa_nil))))) aa_nil))) (ae_slice (ae_var 8) (ap_some (ae_op oa_add (ae_var 10) ae_int)) ap_none)))
  (ass_one (as_expr (ae_lm PySem.F.slot_list_append PySem.F.type_list_append ma_append (ae_var 9) (aa_cons (ae_tup (aa_cons (ae_var 3) (aa_cons (ae_var 4) (aa_cons (ae_var 5) (aa_cons (ae_var 6) (aa_cons (ae_var 7) (aa_cons (ae_var 14) aa_nil))))))) aa_nil)))))))))
  (ass_cons (as_set 15 sc_law.nd (ae_call F_cuts hr (by omega) (by rfl) (aa_cons (ae_var 2) aa_nil)))
  (ass_cons (as_if (at_cmp (oa_ne hr.units) (ae_callTy ca_list (by rfl) T.b_list (by decide +kernel) (aa_cons (ae_var 15) aa_nil)) (ae_var 9))
  (ass_one (as_ret ae_bl))
  ass_nil)
  (ass_cons (as_expr (ae_lm PySem.F.slot_list_append PySem.F.type_list_append ma_append (ae_var 15) (aa_cons ae_non aa_nil)))
  (ass_one (as_ret (ae_cmp (oa_eq hr.units) (ae_callTy ca_list (by rfl) T.b_list (by decide +kernel) (aa_cons (ae_call F_cuts hr (by omega) (by rfl) (aa_cons (ae_var 2) aa_nil)) aa_nil)) (ae_var 9))))))))))))))))))), ?_⟩
  rintro xs S Q ⟨ns, rfl, hn, q⟩
  walk_at "wb"
  refine Cal_of ⟨ns, rfl, hn, fun d l S1 w1 hd hl => ?_⟩
  walk_at "wb"
  refine Cal_of ⟨d, l, _, 3, 4, rfl, w1.dr, by omega, by omega, by omega, by omega, by omega, fun p S2 hp w2 => ?_⟩
  have hok := prg_ok hp
  obtain ⟨ht, hb1, hb2, hb3, hb4, htt⟩ := id hok
  have hlr : ∀ ch : List Stm → List (List Stm), (∀ b, (ch b).length ≤ 2 * Stm.sizes b) → ∀ t ∈ p.threads, (ch t.body).length ≤ 22 := fun ch hch t hm => by
    have := hch t.body
    have := htt t hm
    omega
  have hlp : ∀ ch : List Stm → List (List Stm), (∀ b, (ch b).length ≤ 2 * Stm.sizes b) → ∀ j, (partG (thrM ch p) p.threads j).length ≤ 22 * j := fun ch hch => partG_len fun t j hm => by
    simp only [thrM, List.length_map]
    exact hlr ch hch t hm
  simp only [Prog.enc]
  walk_at "wb"
  intro p0 hp0
  refine CutH_of (fun env' S' => ∃ r a1 a2 a3 a4 a5 a6, env' = [some (.fl (ns.map .int)), some (.ref d), some p.enc, some (.str p.name), some (.tup p.boxes), some (.tup p.locks), some (.tup p.queues), some (.tup p.bags), some (.tup (p.threads.map Thr.enc)), some (.ref r), a1, a2, a3, a4, a5, a6] ∧ S' r = some (.lst ((if 1 < p.threads.length then p.threads.zipIdx.map fun z => ({ p with threads := outAt p.threads z.2 } : Prog) else []).map Prog.enc))) ?_ ?_
  · walk_at "wb"
    by_cases h : 1 < p.threads.length
    · rw [if_pos (by omega), if_pos h]
      refine ⟨by omega, by omega, fun D hD => LcH_of (lc_mapR (f := fun i => Prog.enc { p with threads := outAt p.threads i }) (by omega) hD (fun i S' Qx hi le2 qx => ?_) ?_)⟩
      · walk_at "wb"
        refine Cal_of ⟨_, i, rfl, by rw [List.length_map]; omega, ?_⟩
        walk_at "wb"
        rw [← outAt_map]
        exact qx
      · exact ⟨D, _, _, _, _, _, _, rfl, by rw [us_same, rng_zip]⟩
    · rw [if_neg (by omega), if_neg h]
      exact ⟨p0, _, _, _, _, _, _, rfl, us_same⟩
  rintro env S3 ⟨r, a1, a2, a3, a4, a5, a6, rfl, e3⟩
  obtain ⟨L0, h0, hL0⟩ : ∃ L0, (if 1 < p.threads.length then p.threads.zipIdx.map fun z => ({ p with threads := outAt p.threads z.2 } : Prog) else []) = L0 ∧ L0.length ≤ 8 := ⟨_, rfl, by split <;> simp <;> omega⟩
  rw [h0] at e3
  walk_at "wb"
  refine ⟨by omega, by omega, LoopH_of (for_R0 (fun j env S' => ∃ r a1 a2 a3 a4 a5 a6, env = [some (.fl (ns.map .int)), some (.ref d), some p.enc, some (.str p.name), some (.tup p.boxes), some (.tup p.locks), some (.tup p.queues), some (.tup p.bags), some (.tup (p.threads.map Thr.enc)), some (.ref r), a1, a2, a3, a4, a5, a6] ∧ S' r = some (.lst ((L0 ++ partG (thrM (remM 11) p) p.threads j).map Prog.enc))) ⟨r, a1, a2, a3, a4, a5, a6, rfl, by rw [e3]; simp [partG_zero]⟩ ?_ ?_)⟩
  · rintro j env S4 hj ⟨r, a1, a2, a3, a4, a5, a6, rfl, e4⟩
    obtain ⟨t, ht1⟩ := get_of_lt hj
    have htm := htt t (List.mem_of_getElem? ht1)
    have hat : atI (p.threads.map Thr.enc) (j : Int) = some (.tup [.str t.name, t.copies, .tup t.privs, encB t.body]) := atI_map ht1
    have hlj := hlp (remM 11) (remM_len 11) j
    have hlt := hlr (remM 11) (remM_len 11) t (List.mem_of_getElem? ht1)
    walk_at "wh"
    refine Cal_of ⟨t.body, rfl, htm.1, htm.2.1, fun q1 hq1 => ?_⟩
    have hr1 : r ≠ q1 := sne e4 hq1
    walk_at "wh"
    intro D hD
    have hrD : r ≠ D := sne (by rw [us_ne hr1]; exact e4) hD
    refine LcH_of (lc_mapLG (ys := remM 11 t.body) (f := fun b => Prog.enc { p with threads := putAt p.threads j { t with body := b } }) us_same (by omega) hD (fun b S' Qx hx le2 qx => ?_) ?_)
    · walk_at "wb"
      exact Cal_of ⟨p, j, t, b, rfl, ht1, ht, qx⟩
    · walk_at "wh"
      refine ⟨by first | omega | (simp only [List.length_append]; omega), fun r2 hr2 => ⟨r2, _, _, _, _, _, _, rfl, ?_⟩⟩
      rw [us_same, partG_succ ht1]
      simp [thrM]
  rintro env S4 ⟨r, a1, a2, a3, a4, a5, a6, rfl, e4⟩
  rw [partG_all (Nat.le_refl _)] at e4
  obtain ⟨L1, h1, hL1⟩ : ∃ L1, p.threads.zipIdx.flatMap (thrM (remM 11) p) = L1 ∧ L1.length ≤ 200 := ⟨_, rfl, by have := hlp (remM 11) (remM_len 11) p.threads.length; rw [partG_all (Nat.le_refl _)] at this; omega⟩
  rw [h1] at e4
  walk_at "wb"
  refine ⟨by omega, by omega, LoopH_of (for_R0 (fun j env S' => ∃ r a1 a2 a3 a4 a5 a6, env = [some (.fl (ns.map .int)), some (.ref d), some p.enc, some (.str p.name), some (.tup p.boxes), some (.tup p.locks), some (.tup p.queues), some (.tup p.bags), some (.tup (p.threads.map Thr.enc)), some (.ref r), a1, a2, a3, a4, a5, a6] ∧ S' r = some (.lst ((L0 ++ L1 ++ partG (thrM (hoiM 11) p) p.threads j).map Prog.enc))) ⟨r, a1, a2, a3, a4, a5, a6, rfl, by rw [e4]; simp [partG_zero]⟩ ?_ ?_)⟩
  · rintro j env S5 hj ⟨r, a1, a2, a3, a4, a5, a6, rfl, e5⟩
    obtain ⟨t, ht1⟩ := get_of_lt hj
    have htm := htt t (List.mem_of_getElem? ht1)
    have hat : atI (p.threads.map Thr.enc) (j : Int) = some (.tup [.str t.name, t.copies, .tup t.privs, encB t.body]) := atI_map ht1
    have hlj := hlp (hoiM 11) (hoiM_len 11) j
    have hlt := hlr (hoiM 11) (hoiM_len 11) t (List.mem_of_getElem? ht1)
    walk_at "wh"
    refine Cal_of ⟨t.body, rfl, htm.1, htm.2.1, fun q1 hq1 => ?_⟩
    have hr1 : r ≠ q1 := sne e5 hq1
    walk_at "wh"
    intro D hD
    have hrD : r ≠ D := sne (by rw [us_ne hr1]; exact e5) hD
    refine LcH_of (lc_mapLG (ys := hoiM 11 t.body) (f := fun b => Prog.enc { p with threads := putAt p.threads j { t with body := b } }) us_same (by omega) hD (fun b S' Qx hx le2 qx => ?_) ?_)
    · walk_at "wb"
      exact Cal_of ⟨p, j, t, b, rfl, ht1, ht, qx⟩
    · walk_at "wh"
      refine ⟨by first | omega | (simp only [List.length_append]; omega), fun r2 hr2 => ⟨r2, _, _, _, _, _, _, rfl, ?_⟩⟩
      rw [us_same, partG_succ ht1]
      simp [thrM]
  rintro env S5 ⟨r, a1, a2, a3, a4, a5, a6, rfl, e5⟩
  rw [partG_all (Nat.le_refl _)] at e5
  obtain ⟨L2, h2, hL2⟩ : ∃ L2, p.threads.zipIdx.flatMap (thrM (hoiM 11) p) = L2 ∧ L2.length ≤ 200 := ⟨_, rfl, by have := hlp (hoiM 11) (hoiM_len 11) p.threads.length; rw [partG_all (Nat.le_refl _)] at this; omega⟩
  rw [h2] at e5
  obtain ⟨L, hL, hLl⟩ : ∃ L, L0 ++ L1 ++ L2 = L ∧ L.length ≤ 408 := ⟨_, rfl, by simp only [List.length_append]; omega⟩
  rw [hL] at e5
  walk_at "wh"
  refine ⟨by omega, by omega, fun D0 hD0 => LcH_of (lc_mapR (f := fun i => Prog.enc { p with boxes := outAt p.boxes i }) (by omega) hD0 (fun i S' Qx hi le2 qx => ?_) ?_)⟩
  · walk_at "wb"
    refine Cal_of ⟨_, i, rfl, by omega, ?_⟩
    walk_at "wb"
    exact qx
  rw [rng_zip p.boxes fun i => { p with boxes := outAt p.boxes i }]
  have hrD0 := sne e5 hD0
  obtain ⟨M0, hM0, hMl0⟩ : ∃ M, p.boxes.zipIdx.map (fun z => ({ p with boxes := outAt p.boxes z.2 } : Prog)) = M ∧ M.length ≤ 100 := ⟨_, rfl, by simp only [List.length_map, List.length_zipIdx]; omega⟩
  rw [hM0]
  walk_at "wh"
  refine ⟨by omega, fun r0 hr0 => ?_⟩
  rw [← List.map_append]
  obtain ⟨L0d, hL0, hLl0⟩ : ∃ L', L ++ M0 = L' ∧ L'.length ≤ 508 := ⟨_, rfl, by simp only [List.length_append]; omega⟩
  rw [hL0]
  clear e5
  generalize hS0 : us _ r0 (.lst (L0d.map Prog.enc)) = S6
  have e5 : S6 r0 = some (.lst (L0d.map Prog.enc)) := by rw [← hS0]; exact us_same
  clear hS0
  refine ⟨by omega, by omega, fun D1 hD1 => LcH_of (lc_mapR (f := fun i => Prog.enc { p with locks := outAt p.locks i }) (by omega) hD1 (fun i S' Qx hi le2 qx => ?_) ?_)⟩
  · walk_at "wb"
    refine Cal_of ⟨_, i, rfl, by omega, ?_⟩
    walk_at "wb"
    exact qx
  rw [rng_zip p.locks fun i => { p with locks := outAt p.locks i }]
  have hrD1 := sne e5 hD1
  obtain ⟨M1, hM1, hMl1⟩ : ∃ M, p.locks.zipIdx.map (fun z => ({ p with locks := outAt p.locks z.2 } : Prog)) = M ∧ M.length ≤ 100 := ⟨_, rfl, by simp only [List.length_map, List.length_zipIdx]; omega⟩
  rw [hM1]
  walk_at "wh"
  refine ⟨by omega, fun r1 hr1 => ?_⟩
  rw [← List.map_append]
  obtain ⟨L1d, hL1, hLl1⟩ : ∃ L', L0d ++ M1 = L' ∧ L'.length ≤ 608 := ⟨_, rfl, by simp only [List.length_append]; omega⟩
  rw [hL1]
  clear e5
  generalize hS1 : us _ r1 (.lst (L1d.map Prog.enc)) = S6
  have e5 : S6 r1 = some (.lst (L1d.map Prog.enc)) := by rw [← hS1]; exact us_same
  clear hS1
  refine ⟨by omega, by omega, fun D2 hD2 => LcH_of (lc_mapR (f := fun i => Prog.enc { p with queues := outAt p.queues i }) (by omega) hD2 (fun i S' Qx hi le2 qx => ?_) ?_)⟩
  · walk_at "wb"
    refine Cal_of ⟨_, i, rfl, by omega, ?_⟩
    walk_at "wb"
    exact qx
  rw [rng_zip p.queues fun i => { p with queues := outAt p.queues i }]
  have hrD2 := sne e5 hD2
  obtain ⟨M2, hM2, hMl2⟩ : ∃ M, p.queues.zipIdx.map (fun z => ({ p with queues := outAt p.queues z.2 } : Prog)) = M ∧ M.length ≤ 100 := ⟨_, rfl, by simp only [List.length_map, List.length_zipIdx]; omega⟩
  rw [hM2]
  walk_at "wh"
  refine ⟨by omega, fun r2 hr2 => ?_⟩
  rw [← List.map_append]
  obtain ⟨L2d, hL2, hLl2⟩ : ∃ L', L1d ++ M2 = L' ∧ L'.length ≤ 708 := ⟨_, rfl, by simp only [List.length_append]; omega⟩
  rw [hL2]
  clear e5
  generalize hS2 : us _ r2 (.lst (L2d.map Prog.enc)) = S6
  have e5 : S6 r2 = some (.lst (L2d.map Prog.enc)) := by rw [← hS2]; exact us_same
  clear hS2
  refine ⟨by omega, by omega, fun D3 hD3 => LcH_of (lc_mapR (f := fun i => Prog.enc { p with bags := outAt p.bags i }) (by omega) hD3 (fun i S' Qx hi le2 qx => ?_) ?_)⟩
  · walk_at "wb"
    refine Cal_of ⟨_, i, rfl, by omega, ?_⟩
    walk_at "wb"
    exact qx
  rw [rng_zip p.bags fun i => { p with bags := outAt p.bags i }]
  have hrD3 := sne e5 hD3
  obtain ⟨M3, hM3, hMl3⟩ : ∃ M, p.bags.zipIdx.map (fun z => ({ p with bags := outAt p.bags z.2 } : Prog)) = M ∧ M.length ≤ 100 := ⟨_, rfl, by simp only [List.length_map, List.length_zipIdx]; omega⟩
  rw [hM3]
  walk_at "wh"
  refine ⟨by omega, fun r3 hr3 => ?_⟩
  rw [← List.map_append]
  obtain ⟨L3d, hL3, hLl3⟩ : ∃ L', L2d ++ M3 = L' ∧ L'.length ≤ 808 := ⟨_, rfl, by simp only [List.length_append]; omega⟩
  rw [hL3]
  clear e5
  generalize hS3 : us _ r3 (.lst (L3d.map Prog.enc)) = S6
  have e5 : S6 r3 = some (.lst (L3d.map Prog.enc)) := by rw [← hS3]; exact us_same
  clear hS3
  have hpl : ∀ t j, t ∈ p.threads → (privM p (t, j)).length ≤ 100 := fun t j hm => by
    have := htt t hm
    simp only [privM, List.length_map, List.length_zipIdx]
    omega
  have hpl' := partG_len hpl
  refine ⟨by omega, by omega, LoopH_of (for_R0 (fun j env S' => ∃ a1 a2 a3 a4 a5 a6, env = [some (.fl (ns.map .int)), some (.ref d), some p.enc, some (.str p.name), some (.tup p.boxes), some (.tup p.locks), some (.tup p.queues), some (.tup p.bags), some (.tup (p.threads.map Thr.enc)), some (.ref r3), a1, a2, a3, a4, a5, a6] ∧ S' r3 = some (.lst ((L3d ++ partG (privM p) p.threads j).map Prog.enc))) ⟨a1, a2, a3, a4, a5, a6, rfl, by rw [e5]; simp [partG_zero]⟩ ?_ ?_)⟩
  · rintro j env S7 hj ⟨a1, a2, a3, a4, a5, a6, rfl, e7⟩
    obtain ⟨t, ht1⟩ := get_of_lt hj
    have htm := htt t (List.mem_of_getElem? ht1)
    have hj1 := hpl' j
    have hat : atI (p.threads.map Thr.enc) (j : Int) = some (.tup [.str t.name, t.copies, .tup t.privs, encB t.body]) := atI_map ht1
    walk_at "wh"
    refine ⟨by omega, by omega, LoopH_of (for_R0 (fun m env S' => ∃ a4 a5, env = [some (.fl (ns.map .int)), some (.ref d), some p.enc, some (.str p.name), some (.tup p.boxes), some (.tup p.locks), some (.tup p.queues), some (.tup p.bags), some (.tup (p.threads.map Thr.enc)), some (.ref r3), some (.int j), a2, some t.enc, a4, a5, a6] ∧ S' r3 = some (.lst ((L3d ++ partG (privM p) p.threads j ++ (privM p (t, j)).take m).map Prog.enc))) ⟨_, _, rfl, by rw [e7]; simp⟩ ?_ ?_)⟩
    · rintro m env S8 hm ⟨a4, a5, rfl, e8⟩
      obtain ⟨y, hy⟩ := get_of_lt hm
      have hz : (privM p (t, j))[m]? = some { p with threads := putAt p.threads j { t with privs := outAt t.privs m } } := by
        unfold privM
        rw [List.getElem?_map, List.getElem?_zipIdx, hy]
        simp
      have hdl : (privM p (t, j)).length ≤ 100 := hpl t j (List.mem_of_getElem? ht1)
      simp only [Thr.enc]
      walk_at "wh"
      refine Cal_of ⟨_, m, rfl, by omega, ?_⟩
      walk_at "wh"
      simp only [cut_to, cut_from1, e8, KO, lsO_lst, List.length_append, List.length_map, List.length_take, List.length_drop, List.length_cons, List.length_nil]
      refine ⟨by omega, by omega, by omega, _, _, rfl, ?_⟩
      have e6 : A.tup [.str p.name, .tup p.boxes, .tup p.locks, .tup p.queues, .tup p.bags, .tup ((p.threads.map Thr.enc).take j ++ [A.tup [.str t.name, t.copies, .tup (outAt t.privs m), encB t.body]] ++ (p.threads.map Thr.enc).drop (j + 1))] = Prog.enc { p with threads := putAt p.threads j { t with privs := outAt t.privs m } } := by
        simp only [Prog.enc, putAt_map]
        rfl
      rw [e6, take_snoc hz]
      simp
    · rintro env S8 ⟨a4, a5, rfl, e8⟩
      have hdl : (privM p (t, j)).length = t.privs.length := by unfold privM; simp
      rw [List.take_of_length_le (by omega)] at e8
      refine ⟨_, _, _, _, _, _, rfl, ?_⟩
      rw [partG_succ ht1, e8, ← List.append_assoc]
  rintro env S7 ⟨a1, a2, a3, a4, a5, a6, rfl, e7⟩
  rw [partG_all (Nat.le_refl _)] at e7
  have eL : L3d ++ p.threads.zipIdx.flatMap (privM p) = cutsM 11 p := by
    rw [← hL3, ← hL2, ← hL1, ← hL0, ← hL, ← h0, ← h1, ← h2, ← hM0, ← hM1, ← hM2, ← hM3]
    rfl
  rw [eL] at e7
  have hfit : A.fits ((cutsM 11 p).map Prog.enc) 40 = true := fits_all fun x hx => by
    obtain ⟨y, hy, rfl⟩ := List.mem_map.mp hx
    exact (cuts_fit (prg_fit hp (by omega)) y hy).enc
  have hcl : (cutsM 11 p).length ≤ 100000 := by
    rw [← eL, List.length_append]
    have := hpl' p.threads.length
    rw [partG_all (Nat.le_refl _)] at this
    omega
  walk_at "wb"
  refine Cal_of ⟨p, rfl, hok, fun q1 hq1 => ?_⟩
  have hr1 : r3 ≠ q1 := sne e7 hq1
  walk_at "wh"
  intro p1 hp1
  have hr2 : r3 ≠ p1 := sne (by rw [us_ne hr1]; exact e7) hp1
  have hqp : q1 ≠ p1 := sne us_same hp1
  refine Op_of (eq_same us_same (by rw [us_ne hr2, us_ne hr1]; exact e7) hfit (by omega) ?_)
  walk_at "wh"
  refine ⟨by omega, Cal_of ⟨p, rfl, hok, fun q2 hq2 => ?_⟩⟩
  have hrq : r3 ≠ q2 := sne (by rw [us_ne hr1, us_ne hr2, us_ne hr1]; exact e7) hq2
  walk_at "wh"
  intro p4 hp4
  have hr4 : r3 ≠ p4 := sne (by rw [us_ne hrq, us_ne hr1, us_ne hr2, us_ne hr1]; exact e7) hp4
  refine Op_of (eq_same us_same (by rw [us_ne hr4, us_ne hrq, us_ne hr1, us_ne hr2, us_ne hr1]; exact e7) hfit (by omega) ?_)
  walk_at "wb"
  exact Ret.at (q _)
end
end K77

set_option Elab.async false
set_option maxRecDepth 100000
set_option maxHeartbeats 8000000
set_option linter.all false
namespace K77
open PySem L2 WA
theorem df_mk {K : PySem.W.Frag} {h : Heap} {mg : Str → Option Value} {x : Str} {st : Stmt} {ps : List Str} {f : Addr} {od an : Option Addr} {osl : Array (Option Value)} {oc kV doc pm cdv ct : Value} (X : K.In h) (G : h.Ns mainGlobals mg)
    (b : ∀ (kV doc pm : Value) (an : Option Addr) (cdv ct : Value) (us : List Value), us.length = ps.length → bindArgs (PySem.W.fnOf x x (defArgs st) (defBody st) (defScope st) .none kV doc pm an cdv ct) ⟨us, []⟩ = pure (ps.zip us))
    (a : PySem.W.nsIn K mainGlobals x = some (some (.ref f))) (l : K.lookup f = some ⟨oc, od, .func (PySem.W.fnOf x x (defArgs st) (defBody st) (defScope st) .none kV doc pm an cdv ct), osl⟩) (c : PySem.W.codeIn K cdv x = true) (k : PySem.W.keepIn K (.ref f) = true) : Df K mg x st ps f :=
  ⟨_, fun_mk l c k, PySem.W.mg_of X G a, (fun_mk l c k).binds b⟩
theorem spLaw_hsp {K : PySem.W.Frag} {H : Hp} {a : Addr} {ns : List Int} (hl : ns.length ≤ 63) (hO : Only H) (hS : SqL K H a (ns.map V.int)) : liftSp K sp_law [.ref a] H (fun v _ => v = .bl true) fun _ _ _ => False := by
  have hF : FzL K H a (ns.map V.int) := by
    rcases hS with hS | hS
    · rcases hO a with e | ⟨o, xs, e⟩
      · rcases hS with hS | ⟨o, hS⟩ <;> (rw [e] at hS; cases hS)
      · rcases hS with hS | ⟨o', hS⟩
        · rw [e] at hS; cases hS
        · exact .inl ⟨o', hS⟩
    · exact .inr hS
  refine ⟨[.fl (ns.map .int)], fun _ => none, fun x _ => x = .bl true, RAs.cons ⟨a, _, rfl, hF, RAs.ints ns⟩ RAs.nil, (fun _ _ h => by cases h), ⟨ns, rfl, hl, fun _ => rfl⟩, fun z H' x S' _ r _ e => ?_⟩
  subst e
  cases r
  rfl
section
variable {w : World} {K : PySem.W.Frag} {mg : Str → Option Value}
theorem all_mk {l : PySem.W.OpenLaw} {h : Heap} {fa f : Addr} {od an : Option Addr} {osl : Array (Option Value)} {oc kV doc pm cdv ct : Value} (X : K.In h) (G : h.Ns mainGlobals mg) (hfa : mg "law" = some (.ref fa))
    (D_bodies_of : ∃ f, Df K mg "bodies_of" s_bodies_of ["statement"] f)
    (D_with_body : ∃ f, Df K mg "with_body" s_with_body ["statement", "number", "body"] f)
    (D_within_bodies : ∃ f, Df K mg "within_bodies" s_within_bodies ["body", "at", "change"] f)
    (D_removals : ∃ f, Df K mg "removals" s_removals ["body"] f)
    (D_hoists : ∃ f, Df K mg "hoists" s_hoists ["body"] f)
    (D_without : ∃ f, Df K mg "without" s_without ["row", "at"] f)
    (D_thread_changes : ∃ f, Df K mg "thread_changes" s_thread_changes ["program", "change"] f)
    (D_cuts : ∃ f, Df K mg "cuts" s_cuts ["program"] f)
    (D_law_begin : ∃ f, Df K mg "_law_begin" s_law_begin ["script"] f)
    (D_law_draw : ∃ f, Df K mg "_law_draw" s_law_draw ["d", "many"] f)
    (D_law_pick : ∃ f, Df K mg "_law_pick" s_law_pick ["d", "row"] f)
    (D_law_rare : ∃ f, Df K mg "_law_rare" s_law_rare ["d", "many"] f)
    (D_law_shuffled : ∃ f, Df K mg "_law_shuffled" s_law_shuffled ["d", "row"] f)
    (D_law_pool : ∃ f, Df K mg "_law_pool" s_law_pool [] f)
    (D_law_number : ∃ f, Df K mg "_law_number" s_law_number ["d", "names", "depth"] f)
    (D_law_truth : ∃ f, Df K mg "_law_truth" s_law_truth ["d", "names", "depth"] f)
    (D_law_section : ∃ f, Df K mg "_law_section" s_law_section ["d", "world", "budget", "held"] f)
    (D_law_nested : ∃ f, Df K mg "_law_nested" s_law_nested ["d", "world", "budget", "depth", "held", "way"] f)
    (D_law_statement : ∃ f, Df K mg "_law_statement" s_law_statement ["d", "world", "budget", "depth", "held"] f)
    (D_law_rows : ∃ f, Df K mg "_law_rows" s_law_rows ["d", "world", "budget", "many", "depth", "held"] f)
    (D_law_thread : ∃ f, Df K mg "_law_thread" s_law_thread ["d", "name", "parts", "spare", "most_steps", "kinds"] f)
    (D_law_program_of : ∃ f, Df K mg "_law_program_of" s_law_program_of ["d", "most_threads", "most_steps", "kinds"] f)
    (D_law_inner : ∃ f, Df K mg "_law_inner" s_law_inner ["row"] f)
    (D_law_with_body : ∃ f, Df K mg "_law_with_body" s_law_with_body ["program", "at", "body"] f)
    (D_law_put_body : ∃ f, Df K mg "_law_put_body" s_law_put_body ["row", "number", "body"] f)
    (D_law_deeper : ∃ f, Df K mg "_law_deeper" s_law_deeper ["body", "at", "changed"] f)
    (D_law_shorter : ∃ f, Df K mg "_law_shorter" s_law_shorter ["body"] f)
    (D_law_unframed : ∃ f, Df K mg "_law_unframed" s_law_unframed ["body"] f)
    (D_law_out : ∃ f, Df K mg "_law_out" s_law_out ["row", "at"] f)
    (aL : PySem.W.nsIn K mainGlobals "law" = some (some (.ref f))) (lL : K.lookup f = some ⟨oc, od, .func (PySem.W.fnOf "law" "law" (defArgs s_law) (defBody s_law) (defScope s_law) .none kV doc pm an cdv ct), osl⟩) (cL : PySem.W.codeIn K cdv "law" = true) (kL : PySem.W.keepIn K (.ref f) = true)
    (z1 : PySem.W.nsIn K mainGlobals "len" = some none) (z2 : PySem.W.nsIn K mainGlobals "range" = some none) (z3 : PySem.W.nsIn K mainGlobals "enumerate" = some none) (z4 : PySem.W.nsIn K mainGlobals "list" = some none) (z5 : PySem.W.nsIn K mainGlobals "int" = some none) :
    ∃ fd : FuncData, (∀ (s : Shared) (v : Value), BindsTo s fd ⟨[v], []⟩ [("script", v)]) ∧ ∀ base : Heap, K.In base → base.Ns mainGlobals mg → FnOk l.prog w K mg base CX0 26 fa fd ["script"] (liftSp K sp_law) := by
  have e := hfa.symm.trans (PySem.W.mg_of X G aL)
  cases e
  have T : Txt mg := ⟨PySem.W.mg_none_of X G z1, PySem.W.mg_none_of X G z2, PySem.W.mg_none_of X G z3, PySem.W.mg_none_of X G z4, PySem.W.mg_none_of X G z5⟩
  have FL := fun_mk (st := s_law) lL cL kL
  have bL := FL.binds (ps := ["script"]) fun _ _ _ _ _ _ us hl => match us, hl with | [_], _ => rfl
  obtain ⟨f_bodies_of, D_bodies_of⟩ := D_bodies_of
  obtain ⟨f_with_body, D_with_body⟩ := D_with_body
  obtain ⟨f_within_bodies, D_within_bodies⟩ := D_within_bodies
  obtain ⟨f_removals, D_removals⟩ := D_removals
  obtain ⟨f_hoists, D_hoists⟩ := D_hoists
  obtain ⟨f_without, D_without⟩ := D_without
  obtain ⟨f_thread_changes, D_thread_changes⟩ := D_thread_changes
  obtain ⟨f_cuts, D_cuts⟩ := D_cuts
  obtain ⟨f_law_begin, D_law_begin⟩ := D_law_begin
  obtain ⟨f_law_draw, D_law_draw⟩ := D_law_draw
  obtain ⟨f_law_pick, D_law_pick⟩ := D_law_pick
  obtain ⟨f_law_rare, D_law_rare⟩ := D_law_rare
  obtain ⟨f_law_shuffled, D_law_shuffled⟩ := D_law_shuffled
  obtain ⟨f_law_pool, D_law_pool⟩ := D_law_pool
  obtain ⟨f_law_number, D_law_number⟩ := D_law_number
  obtain ⟨f_law_truth, D_law_truth⟩ := D_law_truth
  obtain ⟨f_law_section, D_law_section⟩ := D_law_section
  obtain ⟨f_law_nested, D_law_nested⟩ := D_law_nested
  obtain ⟨f_law_statement, D_law_statement⟩ := D_law_statement
  obtain ⟨f_law_rows, D_law_rows⟩ := D_law_rows
  obtain ⟨f_law_thread, D_law_thread⟩ := D_law_thread
  obtain ⟨f_law_program_of, D_law_program_of⟩ := D_law_program_of
  obtain ⟨f_law_inner, D_law_inner⟩ := D_law_inner
  obtain ⟨f_law_with_body, D_law_with_body⟩ := D_law_with_body
  obtain ⟨f_law_put_body, D_law_put_body⟩ := D_law_put_body
  obtain ⟨f_law_deeper, D_law_deeper⟩ := D_law_deeper
  obtain ⟨f_law_shorter, D_law_shorter⟩ := D_law_shorter
  obtain ⟨f_law_unframed, D_law_unframed⟩ := D_law_unframed
  obtain ⟨f_law_out, D_law_out⟩ := D_law_out
  refine ⟨PySem.W.fnOf "law" "law" (defArgs s_law) (defBody s_law) (defScope s_law) .none kV doc pm an cdv ct, fun s v => .of_eq rfl, fun base _ _ => ?_⟩
  have c_bodies := ok_bodies_of (P := l.prog) (w := w) (base := base) T D_bodies_of
  have c_with := ok_with_body (P := l.prog) (w := w) (base := base) T D_with_body
  have c_ch := ok_ch (P := l.prog) (w := w) (base := base) T D_within_bodies D_removals D_hoists c_bodies c_with 11
  have c_without := ok_without (P := l.prog) (w := w) (base := base) T D_without
  have c_tc := ok_thread_changes (P := l.prog) (w := w) (base := base) T D_thread_changes c_ch.1 c_ch.2
  have c_cuts := ok_cuts (P := l.prog) (w := w) (base := base) (by omega) T D_cuts D_removals.mg_ D_hoists.mg_ c_without c_tc
  have c_begin := ok_begin (P := l.prog) (w := w) (base := base) T D_law_begin
  have c_draw := ok_draw (P := l.prog) (w := w) (base := base) T D_law_draw
  have c_pick := ok_pick (P := l.prog) (w := w) (base := base) T D_law_pick c_draw
  have c_rare := ok_rare (P := l.prog) (w := w) (base := base) T D_law_rare c_draw
  have c_shuffled := ok_shuffled (P := l.prog) (w := w) (base := base) T D_law_shuffled c_draw
  have c_pool := ok_pool (P := l.prog) (w := w) (base := base) T D_law_pool
  have c_number := ok_number (P := l.prog) (w := w) (base := base) T D_law_number c_draw c_pick 2
  have c_truth := ok_truth (P := l.prog) (w := w) (base := base) T D_law_truth c_draw c_pick c_number 2
  have c_rows := (ok_pieces (P := l.prog) (w := w) (base := base) T D_law_statement D_law_section D_law_nested D_law_rows c_draw c_pick c_shuffled c_number c_truth 4).2.2.1
  have c_thread := ok_thread (P := l.prog) (w := w) (base := base) (k := 16) T D_law_thread c_draw c_pick c_shuffled c_rows
  have c_prog := ok_program_of (P := l.prog) (w := w) (base := base) (k := 17) T D_law_program_of c_draw c_pick c_rare c_shuffled c_pool c_thread
  have c_inner := ok_law_inner (P := l.prog) (w := w) (base := base) T D_law_inner
  have c_put := ok_law_put_body (P := l.prog) (w := w) (base := base) T D_law_put_body
  have c_deeper := ok_law_deeper (P := l.prog) (w := w) (base := base) T D_law_deeper c_put
  have c_lch := ok_law_ch (P := l.prog) (w := w) (base := base) T D_law_shorter D_law_unframed c_inner c_deeper 11
  have c_lwb := ok_law_with_body (P := l.prog) (w := w) (base := base) T D_law_with_body
  have c_out := ok_law_out (P := l.prog) (w := w) (base := base) T D_law_out
  exact ok_law (k := 25) T FL (PySem.W.mg_of X G aL) bL c_begin (c_prog.mono (by omega)) (c_lch.1.mono (by omega)) (c_lch.2.mono (by omega)) c_lwb c_out c_cuts (by omega)
theorem walk {l : PySem.W.OpenLaw} {q : Program} {loose : List Str} {XP : (Str → Option Value) → Heap → Prop} {YP : World → Heap → Prop} {d : DefRec} {K : Params → PySem.W.Frag} (hn : l.most = some 63) (hdf : d.params.defaults = [])
    (hY : ∀ (w : World) (h : Heap), YP w h → (K w.params).In h)
    (F : ∀ (w : World) (mg : Str → Option Value) (fa : Addr) (h : Heap), (K w.params).In h → h.Ns mainGlobals mg → mg d.name = some (.ref fa) →
      ∃ fd : FuncData, (∀ (s : Shared) (u : Value), BindsTo s fd ⟨[u], []⟩ [("script", u)]) ∧ ∀ base : Heap, (K w.params).In base → base.Ns mainGlobals mg → FnOk l.prog w (K w.params) mg base CX0 26 fa fd ["script"] (liftSp (K w.params) sp_law)) :
    PySem.W.WalkO q loose XP YP l.row.toRowW d [] (fun f vs => PySem.call f vs) :=
  L2.walk_of (n := 63) (k := 26) (x := "script") (CX := fun _ => CX0) (sp := fun w => liftSp (K w.params) sp_law) hn (by decide) hdf ⟨rfl, by decide, by decide⟩ hY F (fun _ _ a ns hl hO hS => spLaw_hsp hl hO hS) fun _ _ _ _ _ z => z
end
end K77
open PySem PySem.W PyProof.Rows in
set_option maxRecDepth 100000 in
set_option maxHeartbeats 0 in
theorem PySem.Challenge.cw_weavewrit_k77_cuts_in_order_holds : PySem.Challenge.rw_weavewrit_k77_cuts_in_order.Holds := by
  w_on; o_law; k_head; (case hw => w_witness2)
  k_fill
  refine K77.walk (l := PySem.Challenge.rw_weavewrit_k77_cuts_in_order) rfl rfl (fun w h Y => PySem.W.kIn_of Y) ?F
  case F =>
    intro w mg fa h KX G hmg
    refine' K77.all_mk KX G hmg ?D_bodies_of ?D_with_body ?D_within_bodies ?D_removals ?D_hoists ?D_without ?D_thread_changes ?D_cuts ?D_law_begin ?D_law_draw ?D_law_pick ?D_law_rare ?D_law_shuffled ?D_law_pool ?D_law_number ?D_law_truth ?D_law_section ?D_law_nested ?D_law_statement ?D_law_rows ?D_law_thread ?D_law_program_of ?D_law_inner ?D_law_with_body ?D_law_put_body ?D_law_deeper ?D_law_shorter ?D_law_unframed ?D_law_out ?aL ?lL ?cL ?kL ?z1 ?z2 ?z3 ?z4 ?z5
    (case D_bodies_of =>
      refine' ⟨_, K77.df_mk (ps := ["statement"]) KX G (fun _ _ _ _ _ _ us hl => match us, hl with | [_], _ => rfl) ?a ?l ?c ?k⟩
      (case a => k_is)
      (case l => k_is)
      (case c => k_is)
      (case k => k_is))
    (case D_with_body =>
      refine' ⟨_, K77.df_mk (ps := ["statement", "number", "body"]) KX G (fun _ _ _ _ _ _ us hl => match us, hl with | [_, _, _], _ => rfl) ?a ?l ?c ?k⟩
      (case a => k_is)
      (case l => k_is)
      (case c => k_is)
      (case k => k_is))
    (case D_within_bodies =>
      refine' ⟨_, K77.df_mk (ps := ["body", "at", "change"]) KX G (fun _ _ _ _ _ _ us hl => match us, hl with | [_, _, _], _ => rfl) ?a ?l ?c ?k⟩
      (case a => k_is)
      (case l => k_is)
      (case c => k_is)
      (case k => k_is))
    (case D_removals =>
      refine' ⟨_, K77.df_mk (ps := ["body"]) KX G (fun _ _ _ _ _ _ us hl => match us, hl with | [_], _ => rfl) ?a ?l ?c ?k⟩
      (case a => k_is)
      (case l => k_is)
      (case c => k_is)
      (case k => k_is))
    (case D_hoists =>
      refine' ⟨_, K77.df_mk (ps := ["body"]) KX G (fun _ _ _ _ _ _ us hl => match us, hl with | [_], _ => rfl) ?a ?l ?c ?k⟩
      (case a => k_is)
      (case l => k_is)
      (case c => k_is)
      (case k => k_is))
    (case D_without =>
      refine' ⟨_, K77.df_mk (ps := ["row", "at"]) KX G (fun _ _ _ _ _ _ us hl => match us, hl with | [_, _], _ => rfl) ?a ?l ?c ?k⟩
      (case a => k_is)
      (case l => k_is)
      (case c => k_is)
      (case k => k_is))
    (case D_thread_changes =>
      refine' ⟨_, K77.df_mk (ps := ["program", "change"]) KX G (fun _ _ _ _ _ _ us hl => match us, hl with | [_, _], _ => rfl) ?a ?l ?c ?k⟩
      (case a => k_is)
      (case l => k_is)
      (case c => k_is)
      (case k => k_is))
    (case D_cuts =>
      refine' ⟨_, K77.df_mk (ps := ["program"]) KX G (fun _ _ _ _ _ _ us hl => match us, hl with | [_], _ => rfl) ?a ?l ?c ?k⟩
      (case a => k_is)
      (case l => k_is)
      (case c => k_is)
      (case k => k_is))
    (case D_law_begin =>
      refine' ⟨_, K77.df_mk (ps := ["script"]) KX G (fun _ _ _ _ _ _ us hl => match us, hl with | [_], _ => rfl) ?a ?l ?c ?k⟩
      (case a => k_is)
      (case l => k_is)
      (case c => k_is)
      (case k => k_is))
    (case D_law_draw =>
      refine' ⟨_, K77.df_mk (ps := ["d", "many"]) KX G (fun _ _ _ _ _ _ us hl => match us, hl with | [_, _], _ => rfl) ?a ?l ?c ?k⟩
      (case a => k_is)
      (case l => k_is)
      (case c => k_is)
      (case k => k_is))
    (case D_law_pick =>
      refine' ⟨_, K77.df_mk (ps := ["d", "row"]) KX G (fun _ _ _ _ _ _ us hl => match us, hl with | [_, _], _ => rfl) ?a ?l ?c ?k⟩
      (case a => k_is)
      (case l => k_is)
      (case c => k_is)
      (case k => k_is))
    (case D_law_rare =>
      refine' ⟨_, K77.df_mk (ps := ["d", "many"]) KX G (fun _ _ _ _ _ _ us hl => match us, hl with | [_, _], _ => rfl) ?a ?l ?c ?k⟩
      (case a => k_is)
      (case l => k_is)
      (case c => k_is)
      (case k => k_is))
    (case D_law_shuffled =>
      refine' ⟨_, K77.df_mk (ps := ["d", "row"]) KX G (fun _ _ _ _ _ _ us hl => match us, hl with | [_, _], _ => rfl) ?a ?l ?c ?k⟩
      (case a => k_is)
      (case l => k_is)
      (case c => k_is)
      (case k => k_is))
    (case D_law_pool =>
      refine' ⟨_, K77.df_mk (ps := []) KX G (fun _ _ _ _ _ _ us hl => match us, hl with | [], _ => rfl) ?a ?l ?c ?k⟩
      (case a => k_is)
      (case l => k_is)
      (case c => k_is)
      (case k => k_is))
    (case D_law_number =>
      refine' ⟨_, K77.df_mk (ps := ["d", "names", "depth"]) KX G (fun _ _ _ _ _ _ us hl => match us, hl with | [_, _, _], _ => rfl) ?a ?l ?c ?k⟩
      (case a => k_is)
      (case l => k_is)
      (case c => k_is)
      (case k => k_is))
    (case D_law_truth =>
      refine' ⟨_, K77.df_mk (ps := ["d", "names", "depth"]) KX G (fun _ _ _ _ _ _ us hl => match us, hl with | [_, _, _], _ => rfl) ?a ?l ?c ?k⟩
      (case a => k_is)
      (case l => k_is)
      (case c => k_is)
      (case k => k_is))
    (case D_law_section =>
      refine' ⟨_, K77.df_mk (ps := ["d", "world", "budget", "held"]) KX G (fun _ _ _ _ _ _ us hl => match us, hl with | [_, _, _, _], _ => rfl) ?a ?l ?c ?k⟩
      (case a => k_is)
      (case l => k_is)
      (case c => k_is)
      (case k => k_is))
    (case D_law_nested =>
      refine' ⟨_, K77.df_mk (ps := ["d", "world", "budget", "depth", "held", "way"]) KX G (fun _ _ _ _ _ _ us hl => match us, hl with | [_, _, _, _, _, _], _ => rfl) ?a ?l ?c ?k⟩
      (case a => k_is)
      (case l => k_is)
      (case c => k_is)
      (case k => k_is))
    (case D_law_statement =>
      refine' ⟨_, K77.df_mk (ps := ["d", "world", "budget", "depth", "held"]) KX G (fun _ _ _ _ _ _ us hl => match us, hl with | [_, _, _, _, _], _ => rfl) ?a ?l ?c ?k⟩
      (case a => k_is)
      (case l => k_is)
      (case c => k_is)
      (case k => k_is))
    (case D_law_rows =>
      refine' ⟨_, K77.df_mk (ps := ["d", "world", "budget", "many", "depth", "held"]) KX G (fun _ _ _ _ _ _ us hl => match us, hl with | [_, _, _, _, _, _], _ => rfl) ?a ?l ?c ?k⟩
      (case a => k_is)
      (case l => k_is)
      (case c => k_is)
      (case k => k_is))
    (case D_law_thread =>
      refine' ⟨_, K77.df_mk (ps := ["d", "name", "parts", "spare", "most_steps", "kinds"]) KX G (fun _ _ _ _ _ _ us hl => match us, hl with | [_, _, _, _, _, _], _ => rfl) ?a ?l ?c ?k⟩
      (case a => k_is)
      (case l => k_is)
      (case c => k_is)
      (case k => k_is))
    (case D_law_program_of =>
      refine' ⟨_, K77.df_mk (ps := ["d", "most_threads", "most_steps", "kinds"]) KX G (fun _ _ _ _ _ _ us hl => match us, hl with | [_, _, _, _], _ => rfl) ?a ?l ?c ?k⟩
      (case a => k_is)
      (case l => k_is)
      (case c => k_is)
      (case k => k_is))
    (case D_law_inner =>
      refine' ⟨_, K77.df_mk (ps := ["row"]) KX G (fun _ _ _ _ _ _ us hl => match us, hl with | [_], _ => rfl) ?a ?l ?c ?k⟩
      (case a => k_is)
      (case l => k_is)
      (case c => k_is)
      (case k => k_is))
    (case D_law_with_body =>
      refine' ⟨_, K77.df_mk (ps := ["program", "at", "body"]) KX G (fun _ _ _ _ _ _ us hl => match us, hl with | [_, _, _], _ => rfl) ?a ?l ?c ?k⟩
      (case a => k_is)
      (case l => k_is)
      (case c => k_is)
      (case k => k_is))
    (case D_law_put_body =>
      refine' ⟨_, K77.df_mk (ps := ["row", "number", "body"]) KX G (fun _ _ _ _ _ _ us hl => match us, hl with | [_, _, _], _ => rfl) ?a ?l ?c ?k⟩
      (case a => k_is)
      (case l => k_is)
      (case c => k_is)
      (case k => k_is))
    (case D_law_deeper =>
      refine' ⟨_, K77.df_mk (ps := ["body", "at", "changed"]) KX G (fun _ _ _ _ _ _ us hl => match us, hl with | [_, _, _], _ => rfl) ?a ?l ?c ?k⟩
      (case a => k_is)
      (case l => k_is)
      (case c => k_is)
      (case k => k_is))
    (case D_law_shorter =>
      refine' ⟨_, K77.df_mk (ps := ["body"]) KX G (fun _ _ _ _ _ _ us hl => match us, hl with | [_], _ => rfl) ?a ?l ?c ?k⟩
      (case a => k_is)
      (case l => k_is)
      (case c => k_is)
      (case k => k_is))
    (case D_law_unframed =>
      refine' ⟨_, K77.df_mk (ps := ["body"]) KX G (fun _ _ _ _ _ _ us hl => match us, hl with | [_], _ => rfl) ?a ?l ?c ?k⟩
      (case a => k_is)
      (case l => k_is)
      (case c => k_is)
      (case k => k_is))
    (case D_law_out =>
      refine' ⟨_, K77.df_mk (ps := ["row", "at"]) KX G (fun _ _ _ _ _ _ us hl => match us, hl with | [_, _], _ => rfl) ?a ?l ?c ?k⟩
      (case a => k_is)
      (case l => k_is)
      (case c => k_is)
      (case k => k_is))
    (case aL => k_is)
    (case lL => k_is)
    (case cL => k_is)
    (case kL => k_is)
    (case z1 => k_is)
    (case z2 => k_is)
    (case z3 => k_is)
    (case z4 => k_is)
    (case z5 => k_is)

