import PyProof.Rows.All
import Wide.All
import OpenK.AllK
import Wide.FinOn
import HandS.ForMost
import HandS.Exc
import HandS.ExcInit
import HandS.ExcValue
import HandS.TupAny
import HandS.Conv
import HandS.TupMul
import HandS.Text
import HandS.WideBits
import HandS.EndBits
import HandS.Wide
import HandS.TupLe
import HandS.IsInst
import HandS.NoneIn
import PyProof.ReprRoads
import HandS.Deep
import HandS.Dict
import HandS.ExcOwn
import KE.KExcIs
import KE.KIsAll
import HandS.ExcIs
import HandS.TupSets
import HandS.SetFor
import HandS.Strs
import PyProof.ListStr
import HandS.Zip
import KE.GoesEnumKw
import HandS.More
import HandS.ExcField
import HandS.Style
import HandS.TryOnly
import KE.GoesMore
import KE.GoesEnum
import HandS.Defaults
import HandS.MakeKw
import PyProof.ReprBulk
import HandS.TryMany
import KE.KExcInit
import KE.KExcLine
import PySem.Challenge.RW_ticketrows_k18_refusals_told_apart
import KE.KIntText
import KE.KxText
import PyProof.Rows.StrNews2
set_option Elab.async false
set_option linter.all false
set_option maxRecDepth 100000
set_option maxHeartbeats 4000000
/-! Tk1: plain data D, what represents it in an abstract heap, environments with owned cells. -/
namespace Tk
open PySem L2

inductive D where
  | non
  | bl (b : Bool)
  | int (i : Int)
  | str (x : Str)
  | tup (l : List D)
  | lst (l : List D)
  | dct (ks : List Key) (l : List D)
  | obj (c : Nat) (l : List D)
  | exv (c : Nat) (l : List D)
  | fn (n : Nat)
  | scr (ns : List Int)

/-- what is known of the text: the written part, the classes and defs that data may name -/
structure Tb where
  K : PySem.W.Frag
  cls : Nat → Option (Addr × List Str)
  fns : Nat → Option Addr
  /-- the exception that a suite holds: where it lies, its class, its dict -/
  exa : Option (Addr × Value × Option Addr)

abbrev Hid := Addr → Prop
/-- a list that is seen: tracked and not hidden -/
def SeenL (G : Tb) (A : Hid) (H : Hp) (a : Addr) (vs : List V) : Prop := ¬ A a ∧ H a = some (.lst vs)
theorem SeenL.sq {G : Tb} {A : Hid} {H : Hp} {a : Addr} {vs : List V} (h : SeenL G A H a vs) : SqL G.K H a vs := .inl (.inl h.2)
/-- the script -/
def Scr (G : Tb) (A : Hid) (H : Hp) (a : Addr) (vs : List V) : Prop := (¬ A a ∧ ∃ o, H a = some (.frz o (.lst vs))) ∨ SqL G.K (fun _ => none) a vs
theorem Scr.sq {G : Tb} {A : Hid} {H : Hp} {a : Addr} {vs : List V} (h : Scr G A H a vs) : SqL G.K H a vs := by
  rcases h with ⟨_, h⟩ | (h | h)
  · exact .inl (.inr h)
  · rcases h with h | ⟨_, h⟩ <;> cases h
  · exact .inr h

/-- a tuple that is known to the object, or the module's: it has no dict of its own -/
def SqF (K : PySem.W.Frag) (H : Hp) (a : Addr) (xs : List V) : Prop :=
  (∃ o, H a = some (.frz o (.tup xs)) ∧ o.dict = none) ∨
    ∃ (o : Obj) (its : Array Value) (n : Nat), K.lookup a = some o ∧ o.cls = .type "tuple" ∧ o.dict = none ∧ o.data = .seq its n ∧ its.size ≤ sizeLine ∧ Vals xs its.toList
theorem SqF.t {K : PySem.W.Frag} {H : Hp} {a : Addr} {xs : List V} (h : SqF K H a xs) : SqT K H a xs := by
  rcases h with ⟨o, h, _⟩ | ⟨o, its, n, h1, h2, _, h3, h4, h5⟩
  · exact .inl (.inr ⟨o, h⟩)
  · exact .inr ⟨o, its, n, h1, h2, h3, h4, h5⟩

mutual
def RepD (G : Tb) (A : Hid) (H : Hp) : D → V → Prop
  | .non, v => v = .non
  | .bl b, v => v = .bl b
  | .int i, v => v = .int i
  | .str x, v => v = .str x
  | .tup l, v => ∃ a vs, v = .ref a ∧ SqF G.K H a vs ∧ RepDs G A H l vs
  | .lst l, v => ∃ a vs, v = .ref a ∧ SeenL G A H a vs ∧ RepDs G A H l vs
  | .dct ks l, v => ∃ a vs, v = .ref a ∧ ¬ A a ∧ Rd H a (.dK (ks.zip vs)) ∧ ks.length = vs.length ∧ RepDs G A H l vs
  | .obj c l, v => ∃ a C dx ns vs, v = .ref a ∧ ¬ A a ∧ H a = some (.ins C dx (ns.zip vs)) ∧ G.cls c = some (C, ns) ∧ ns.length = vs.length ∧ RepDs G A H l vs
  | .exv c l, v => ∃ a C ns vs, v = .ref a ∧ ¬ A a ∧ G.cls c = some (C, ns) ∧ ns.length = vs.length ∧ RepDs G A H l vs ∧ ((ns = [] ∧ H a = some (ExO (.ref C) a)) ∨ ∃ d, ¬ A d ∧ H a = some (exo a C (some d)) ∧ H d = some (exd d (ns.zip vs)))
  | .fn n, v => ∃ a, v = .ref a ∧ G.fns n = some a
  | .scr ns, v => ∃ a, v = .ref a ∧ Scr G A H a (ns.map V.int)
def RepDs (G : Tb) (A : Hid) (H : Hp) : List D → List V → Prop
  | [], vs => vs = []
  | d :: ds, vs => ∃ v r, vs = v :: r ∧ RepD G A H d v ∧ RepDs G A H ds r
end

/-- the thing that an address holds, itself hidden -/
def RepTop (G : Tb) (A : Hid) (H : Hp) : D → Addr → Prop
  | .lst l, p => ∃ vs, H p = some (.lst vs) ∧ RepDs G A H l vs
  | .dct ks l, p => ∃ vs, H p = some (.dK (ks.zip vs)) ∧ ks.length = vs.length ∧ RepDs G A H l vs
  | .obj c l, p => ∃ C dx ns vs, H p = some (.ins C dx (ns.zip vs)) ∧ G.cls c = some (C, ns) ∧ ns.length = vs.length ∧ RepDs G A H l vs
  | _, _ => False

/-- what is seen stays -/
def Stab (A : Hid) (H : Hp) (A' : Hid) (H' : Hp) : Prop := ∀ a o, H a = some o → ¬ A a → H' a = some o ∧ ¬ A' a
/-- tuples are never hidden -/
def TupOk (A : Hid) (H : Hp) : Prop := ∀ p, A p → ∃ o, H p = some o ∧ (∀ xs, o ≠ .tup xs) ∧ ∀ o' xs, o ≠ .frz o' (.tup xs)

theorem Stab.refl (A : Hid) (H : Hp) : Stab A H A H := fun _ _ h n => ⟨h, n⟩
theorem Stab.trans {A A1 A2 : Hid} {H H1 H2 : Hp} (x : Stab A H A1 H1) (y : Stab A1 H1 A2 H2) : Stab A H A2 H2 := fun a o h n =>
  let ⟨h1, n1⟩ := x a o h n
  y a o h1 n1

theorem Stab.rd {A A' : Hid} {H H' : Hp} (s : Stab A H A' H') {a : Addr} {u : HO} (n : ¬ A a) (r : Rd H a u) : Rd H' a u ∧ ¬ A' a := by
  rcases r with r | ⟨o, r⟩
  · exact ⟨.inl (s a _ r n).1, (s a _ r n).2⟩
  · exact ⟨.inr ⟨o, (s a _ r n).1⟩, (s a _ r n).2⟩

theorem Stab.sqT {K : PySem.W.Frag} {A A' : Hid} {H H' : Hp} (s : Stab A H A' H') (t : TupOk A H) {a : Addr} {xs : List V} (h : SqT K H a xs) : SqT K H' a xs := by
  rcases h with h | h
  · have n : ¬ A a := fun ha => by
      obtain ⟨o, e, n1, n2⟩ := t a ha
      rcases h with h | ⟨o', h⟩
      · rw [e] at h
        exact n1 _ (Option.some.inj h)
      · rw [e] at h
        exact n2 _ _ (Option.some.inj h)
    exact .inl (s.rd n h).1
  · exact .inr h

theorem Stab.sqF {K : PySem.W.Frag} {A A' : Hid} {H H' : Hp} (s : Stab A H A' H') (t : TupOk A H) {a : Addr} {xs : List V} (h : SqF K H a xs) : SqF K H' a xs := by
  rcases h with ⟨o, h, d⟩ | h
  · have n : ¬ A a := fun ha => by
      obtain ⟨o', e, _, n2⟩ := t a ha
      rw [e] at h
      exact n2 _ _ (Option.some.inj h)
    exact .inl ⟨o, (s a _ h n).1, d⟩
  · exact .inr h

mutual
theorem RepD.mono {G : Tb} {A A' : Hid} {H H' : Hp} (s : Stab A H A' H') (t : TupOk A H) : ∀ (d : D) (v : V), RepD G A H d v → RepD G A' H' d v
  | .non, _, h => h
  | .bl _, _, h => h
  | .int _, _, h => h
  | .str _, _, h => h
  | .tup l, _, h => by
    unfold RepD at h ⊢
    obtain ⟨a, vs, e, q, r⟩ := h
    exact ⟨a, vs, e, s.sqF t q, RepDs.mono s t l vs r⟩
  | .lst l, _, h => by
    unfold RepD at h ⊢
    obtain ⟨a, vs, e, q, r⟩ := h
    refine ⟨a, vs, e, ?_, RepDs.mono s t l vs r⟩
    exact ⟨(s a _ q.2 q.1).2, (s a _ q.2 q.1).1⟩
  | .dct ks l, _, h => by
    unfold RepD at h ⊢
    obtain ⟨a, vs, e, n, q, z, r⟩ := h
    exact ⟨a, vs, e, (s.rd n q).2, (s.rd n q).1, z, RepDs.mono s t l vs r⟩
  | .obj c l, _, h => by
    unfold RepD at h ⊢
    obtain ⟨a, C, dx, ns, vs, e, n, q, k, z, r⟩ := h
    exact ⟨a, C, dx, ns, vs, e, (s a _ q n).2, (s a _ q n).1, k, z, RepDs.mono s t l vs r⟩
  | .exv c l, _, h => by
    unfold RepD at h ⊢
    obtain ⟨a, C, ns, vs, e, n, k, z, r, q⟩ := h
    rcases q with ⟨e0, q⟩ | ⟨d, nd, q, qd⟩
    · exact ⟨a, C, ns, vs, e, (s a _ q n).2, k, z, RepDs.mono s t l vs r, .inl ⟨e0, (s a _ q n).1⟩⟩
    · exact ⟨a, C, ns, vs, e, (s a _ q n).2, k, z, RepDs.mono s t l vs r, .inr ⟨d, (s d _ qd nd).2, (s a _ q n).1, (s d _ qd nd).1⟩⟩
  | .fn _, _, h => h
  | .scr ns, _, h => by
    unfold RepD at h ⊢
    obtain ⟨a, e, q⟩ := h
    refine ⟨a, e, ?_⟩
    rcases q with ⟨n, o, q⟩ | q
    · exact .inl ⟨(s a _ q n).2, o, (s a _ q n).1⟩
    · exact .inr q
theorem RepDs.mono {G : Tb} {A A' : Hid} {H H' : Hp} (s : Stab A H A' H') (t : TupOk A H) : ∀ (ds : List D) (vs : List V), RepDs G A H ds vs → RepDs G A' H' ds vs
  | [], _, h => h
  | d :: ds, _, h => by
    unfold RepDs at h ⊢
    obtain ⟨v, r, e, q, z⟩ := h
    exact ⟨v, r, e, RepD.mono s t d v q, RepDs.mono s t ds r z⟩
end

theorem RepDs.length {G : Tb} {A : Hid} {H : Hp} : ∀ {ds : List D} {vs : List V}, RepDs G A H ds vs → ds.length = vs.length
  | [], _, h => by
    unfold RepDs at h
    subst h
    rfl
  | d :: ds, _, h => by
    unfold RepDs at h
    obtain ⟨v, r, e, _, z⟩ := h
    subst e
    show ds.length + 1 = r.length + 1
    rw [RepDs.length z]
theorem RepDs.nil {G : Tb} {A : Hid} {H : Hp} : RepDs G A H [] [] := by
  unfold RepDs
  rfl
theorem RepDs.cons {G : Tb} {A : Hid} {H : Hp} {d : D} {v : V} {ds : List D} {vs : List V} (h : RepD G A H d v) (r : RepDs G A H ds vs) : RepDs G A H (d :: ds) (v :: vs) := by
  unfold RepDs
  exact ⟨v, vs, rfl, h, r⟩
theorem RepDs.inv {G : Tb} {A : Hid} {H : Hp} {d : D} {ds : List D} {vs : List V} (h : RepDs G A H (d :: ds) vs) : ∃ v r, vs = v :: r ∧ RepD G A H d v ∧ RepDs G A H ds r := by
  unfold RepDs at h
  exact h
theorem RepDs.inv0 {G : Tb} {A : Hid} {H : Hp} {vs : List V} (h : RepDs G A H [] vs) : vs = [] := by
  unfold RepDs at h
  exact h
theorem RepDs.append {G : Tb} {A : Hid} {H : Hp} : ∀ {ds es : List D} {vs ws : List V}, RepDs G A H ds vs → RepDs G A H es ws → RepDs G A H (ds ++ es) (vs ++ ws)
  | [], _, _, _, h, k => by
    obtain rfl := h.inv0
    exact k
  | d :: ds, _, _, _, h, k => by
    obtain ⟨v, r, rfl, h1, h2⟩ := h.inv
    exact .cons h1 (h2.append k)
theorem RepDs.get {G : Tb} {A : Hid} {H : Hp} : ∀ {ds : List D} {vs : List V} {i : Nat} {d : D}, RepDs G A H ds vs → ds[i]? = some d → ∃ v, vs[i]? = some v ∧ RepD G A H d v
  | [], _, _, _, _, e => by simp at e
  | x :: ds, _, 0, d, h, e => by
    obtain ⟨v, r, rfl, h1, _⟩ := h.inv
    have e' : x = d := Option.some.inj e
    subst e'
    exact ⟨v, rfl, h1⟩
  | x :: ds, _, i + 1, d, h, e => by
    obtain ⟨v, r, rfl, _, h2⟩ := h.inv
    have e' : ds[i]? = some d := e
    obtain ⟨u, k1, k2⟩ := h2.get e'
    exact ⟨u, k1, k2⟩
theorem RepDs.take {G : Tb} {A : Hid} {H : Hp} : ∀ {ds : List D} {vs : List V} (n : Nat), RepDs G A H ds vs → RepDs G A H (ds.take n) (vs.take n)
  | [], _, n, h => by
    obtain rfl := h.inv0
    cases n <;> exact .nil
  | d :: ds, _, 0, h => by
    obtain ⟨v, r, rfl, _, _⟩ := h.inv
    exact .nil
  | d :: ds, _, n + 1, h => by
    obtain ⟨v, r, rfl, h1, h2⟩ := h.inv
    exact .cons h1 (h2.take n)
theorem RepDs.drop {G : Tb} {A : Hid} {H : Hp} : ∀ {ds : List D} {vs : List V} (n : Nat), RepDs G A H ds vs → RepDs G A H (ds.drop n) (vs.drop n)
  | [], _, n, h => by
    obtain rfl := h.inv0
    cases n <;> exact .nil
  | d :: ds, _, 0, h => h
  | d :: ds, _, n + 1, h => by
    obtain ⟨v, r, rfl, h1, h2⟩ := h.inv
    exact h2.drop n
theorem RepDs.set {G : Tb} {A : Hid} {H : Hp} {d : D} {v : V} (hd : RepD G A H d v) : ∀ {ds : List D} {vs : List V} (n : Nat), RepDs G A H ds vs → RepDs G A H (ds.set n d) (vs.set n v)
  | [], _, n, h => by
    obtain rfl := h.inv0
    exact .nil
  | _ :: ds, _, 0, h => by
    obtain ⟨_, r, rfl, _, h2⟩ := h.inv
    exact .cons hd h2
  | _ :: ds, _, n + 1, h => by
    obtain ⟨_, r, rfl, h1, h2⟩ := h.inv
    exact .cons h1 (RepDs.set hd n h2)
theorem RepDs.eraseIdx {G : Tb} {A : Hid} {H : Hp} : ∀ {ds : List D} {vs : List V} (n : Nat), RepDs G A H ds vs → RepDs G A H (ds.eraseIdx n) (vs.eraseIdx n)
  | [], _, n, h => by
    obtain rfl := h.inv0
    exact .nil
  | _ :: ds, _, 0, h => by
    obtain ⟨_, r, rfl, _, h2⟩ := h.inv
    exact h2
  | _ :: ds, _, n + 1, h => by
    obtain ⟨_, r, rfl, h1, h2⟩ := h.inv
    exact .cons h1 (RepDs.eraseIdx n h2)

theorem RepTop.mono {G : Tb} {A A' : Hid} {H H' : Hp} (s : Stab A H A' H') (t : TupOk A H) {d : D} {p : Addr} (k : ∀ o, H p = some o → H' p = some o) (h : RepTop G A H d p) : RepTop G A' H' d p := by
  cases d with
  | lst l =>
    obtain ⟨vs, e, r⟩ := h
    exact ⟨vs, k _ e, r.mono s t⟩
  | dct ks l =>
    obtain ⟨vs, e, z, r⟩ := h
    exact ⟨vs, k _ e, z, r.mono s t⟩
  | obj c l =>
    obtain ⟨C, dx, ns, vs, e, c, z, r⟩ := h
    exact ⟨C, dx, ns, vs, k _ e, c, z, r.mono s t⟩
  | non => exact h
  | bl _ => exact h
  | int _ => exact h
  | str _ => exact h
  | tup _ => exact h
  | exv _ _ => exact h
  | fn _ => exact h
  | scr _ => exact h
/-- unhidden, it is data -/
theorem RepTop.dat {G : Tb} {A : Hid} {H : Hp} {d : D} {p : Addr} (n : ¬ A p) (h : RepTop G A H d p) : RepD G A H d (.ref p) := by
  cases d with
  | lst l =>
    obtain ⟨vs, e, r⟩ := h
    unfold RepD
    exact ⟨p, vs, rfl, ⟨n, e⟩, r⟩
  | dct ks l =>
    obtain ⟨vs, e, z, r⟩ := h
    unfold RepD
    exact ⟨p, vs, rfl, n, .inl e, z, r⟩
  | obj c l =>
    obtain ⟨C, dx, ns, vs, e, c, z, r⟩ := h
    unfold RepD
    exact ⟨p, C, dx, ns, vs, rfl, n, e, c, z, r⟩
  | non => exact h.elim
  | bl _ => exact h.elim
  | int _ => exact h.elim
  | str _ => exact h.elim
  | tup _ => exact h.elim
  | exv _ _ => exact h.elim
  | fn _ => exact h.elim
  | scr _ => exact h.elim
theorem RepTop.some {G : Tb} {A : Hid} {H : Hp} {d : D} {p : Addr} (h : RepTop G A H d p) : ∃ o, H p = Option.some o ∧ (∀ xs, o ≠ .tup xs) ∧ ∀ o' xs, o ≠ .frz o' (.tup xs) := by
  cases d with
  | lst l =>
    obtain ⟨vs, e, r⟩ := h
    exact ⟨_, e, (fun _ z => by cases z), (fun _ _ z => by cases z)⟩
  | dct ks l =>
    obtain ⟨vs, e, z, r⟩ := h
    exact ⟨_, e, (fun _ z => by cases z), (fun _ _ z => by cases z)⟩
  | obj c l =>
    obtain ⟨C, dx, ns, vs, e, c, z, r⟩ := h
    exact ⟨_, e, (fun _ z => by cases z), (fun _ _ z => by cases z)⟩
  | non => exact h.elim
  | bl _ => exact h.elim
  | int _ => exact h.elim
  | str _ => exact h.elim
  | tup _ => exact h.elim
  | exv _ _ => exact h.elim
  | fn _ => exact h.elim
  | scr _ => exact h.elim

/-! ### environments -/
/-- an exception: its class by number, its fields -/
structure Exc where
  cls : Nat
  fs : List D
inductive Cell where
  | dat (d : D)
  | own (d : D)
  | exc (x : Exc)
/-- an exception's fields lie in its dict -/
def XFs (G : Tb) (A : Hid) (H : Hp) (x : Exc) (d : Option Addr) : Prop := (x.fs = [] ∧ d = none) ∨ ∃ C ns p vs, d = some p ∧ ¬ A p ∧ G.cls x.cls = some (C, ns) ∧ H p = some (.xd (ns.zip vs)) ∧ ns.length = vs.length ∧ RepDs G A H x.fs vs
theorem XFs.mono {G : Tb} {A A' : Hid} {H H' : Hp} (s : Stab A H A' H') (t : TupOk A H) {x : Exc} {d : Option Addr} (h : XFs G A H x d) : XFs G A' H' x d := by
  rcases h with h | ⟨C, ns, p, vs, e, n, c, hp, l, r⟩
  · exact .inl h
  · exact .inr ⟨C, ns, p, vs, e, (s p _ hp n).2, c, (s p _ hp n).1, l, r.mono s t⟩
abbrev Env := List (Option Cell)

def CellOk (G : Tb) (A : Hid) (H : Hp) : Cell → V → Prop
  | .dat d, v => RepD G A H d v
  | .own d, v => ∃ p, v = .ref p ∧ A p ∧ RepTop G A H d p
  | .exc x, v => ∃ a C d ns, v = .ref a ∧ G.exa = some (a, .ref C, d) ∧ G.cls x.cls = some (C, ns) ∧ XFs G A H x d
theorem CellOk.exc_mono {G : Tb} {A A' : Hid} {H H' : Hp} (s : Stab A H A' H') (t : TupOk A H) {x : Exc} {v : V} (h : CellOk G A H (.exc x) v) : CellOk G A' H' (.exc x) v := by
  obtain ⟨a, C, d, ns, e1, e2, e3, f⟩ := h
  exact ⟨a, C, d, ns, e1, e2, e3, f.mono s t⟩

def Own (σ : St) (env : Env) : Hid := fun p => ∃ (i : Nat) (d : D), env[i]? = some (some (.own d)) ∧ σ[i]? = some (some (.ref p))

structure Rep (G : Tb) (A : Hid) (σ : St) (H : Hp) (env : Env) : Prop where
  len : env.length = σ.length
  tup : TupOk A H
  cell : ∀ (i : Nat) c, env[i]? = some (some c) → ∃ v, σ[i]? = some (some v) ∧ CellOk G A H c v
  inj : ∀ (i j : Nat) d e v, env[i]? = some (some (.own d)) → env[j]? = some (some (.own e)) → σ[i]? = some (some v) → σ[j]? = some (some v) → i = j

theorem Rep.own_hid {G : Tb} {A : Hid} {σ : St} {H : Hp} {env : Env} (R : Rep G A σ H env) {p : Addr} (o : Own σ env p) : A p := by
  obtain ⟨i, d, e1, e2⟩ := o
  obtain ⟨v, e3, q, e4, h, _⟩ := R.cell i _ e1
  rw [e2] at e3
  cases e3
  cases e4
  exact h

/-- from one state to a later one: what isn't own is as it was -/
structure Fr (O A : Hid) (H : Hp) (O' A' : Hid) (H' : Hp) : Prop where
  keep : ∀ a o, H a = some o → ¬ O a → H' a = some o ∧ (A' a ↔ A a)
  own : ∀ p, O' p → O p ∨ H p = none
  dom : ∀ a o, H a = some o → ∃ o', H' a = some o'

theorem Fr.refl (O A : Hid) (H : Hp) : Fr O A H O A H := ⟨fun _ _ h _ => ⟨h, Iff.rfl⟩, fun _ h => .inl h, fun _ o h => ⟨o, h⟩⟩
theorem Fr.trans {O A O1 A1 O2 A2 : Hid} {H H1 H2 : Hp} (x : Fr O A H O1 A1 H1) (y : Fr O1 A1 H1 O2 A2 H2) : Fr O A H O2 A2 H2 := by
  refine ⟨fun a o h n => ?_, fun p hp => ?_, fun a o h => ?_⟩
  · obtain ⟨h1, i1⟩ := x.keep a o h n
    have n1 : ¬ O1 a := fun z => by
      rcases x.own a z with q | q
      · exact n q
      · rw [h] at q
        cases q
    obtain ⟨h2, i2⟩ := y.keep a o h1 n1
    exact ⟨h2, i2.trans i1⟩
  · rcases y.own p hp with q | q
    · exact x.own p q
    · refine .inr ?_
      cases z : H p with
      | none => rfl
      | some o =>
        obtain ⟨o', e⟩ := x.dom p o z
        rw [e] at q
        cases q
  · obtain ⟨o1, h1⟩ := x.dom a o h
    exact y.dom a o1 h1
theorem Fr.stab {O A O' A' : Hid} {H H' : Hp} (x : Fr O A H O' A' H') (h : ∀ p, O p → A p) : Stab A H A' H' := fun a o e n =>
  let ⟨h1, i1⟩ := x.keep a o e fun z => n (h a z)
  ⟨h1, fun z => n (i1.mp z)⟩
theorem Fr.none {O A O' A' : Hid} {H H' : Hp} (x : Fr O A H O' A' H') {p : Addr} (h : H' p = Option.none) : H p = Option.none := by
  cases z : H p with
  | none => rfl
  | some o =>
    obtain ⟨o', e⟩ := x.dom p o z
    rw [e] at h
    cases h

/-! ### what an expression gives -/
inductive Out where
  | dat (d : D)
  | fresh (d : D)
  | slot (i : Nat)
/-- H0: the heap ahead of the expression -/
def OutOk (G : Tb) (H0 : Hp) (A : Hid) (σ : St) (H : Hp) (env : Env) : Out → V → Prop
  | .dat d, v => RepD G A H d v
  | .fresh d, v => ∃ p, v = .ref p ∧ H0 p = none ∧ A p ∧ ¬ Own σ env p ∧ RepTop G A H d p
  | .slot i, v => σ[i]? = some (some v)

inductive Rs (α : Type) where
  | ok (a : α) (env : Env)
  | ex (x : Exc) (env : Env)
abbrev EF := Env → Option (Rs Out)

def bd {α β : Type} (r : Option (Rs α)) (k : α → Env → Option (Rs β)) : Option (Rs β) :=
  match r with
  | some (.ok a e) => k a e
  | some (.ex x e) => some (.ex x e)
  | none => none
theorem bd_ok {α β : Type} {a : α} {e : Env} {k : α → Env → Option (Rs β)} : bd (some (.ok a e)) k = k a e := rfl
/-- how an exception of the table looks: its class, its own dict, the heap -/
abbrev XW := Tb → Exc → Value → Option Addr → Hid → Hp → Prop

/-- the usual one -/
def XRx : XW := fun G x c d A H => ∃ C ns, G.cls x.cls = some (C, ns) ∧ c = .ref C ∧ XFs G A H x d

/-- the wish behind an evaluation that began at (A, H, env) -/
def Post {α : Type} (G : Tb) (XR : XW) (W : WX) (σ : St) (A : Hid) (H : Hp) (env : Env) (K : α → Env → Hid → Hp → Prop) : Option (Rs α) → Prop
  | none => False
  | some (.ok a env') => ∀ A' H', Rep G A' σ H' env' → Fr (Own σ env) A H (Own σ env') A' H' → K a env' A' H'
  | some (.ex x env') => ∀ A' H' c d, Rep G A' σ H' env' → Fr (Own σ env) A H (Own σ env') A' H' → XR G x c d A' H' → W c d σ H'

theorem Post.imp {α : Type} {G : Tb} {XR : XW} {W : WX} {σ : St} {A A1 : Hid} {H H1 : Hp} {env env1 : Env} {K K' : α → Env → Hid → Hp → Prop} (f : Fr (Own σ env) A H (Own σ env1) A1 H1)
    (h : ∀ a e A' H', Fr (Own σ env1) A1 H1 (Own σ e) A' H' → K a e A' H' → K' a e A' H') : ∀ {r : Option (Rs α)}, Post G XR W σ A H env K r → Post G XR W σ A1 H1 env1 K' r
  | none, q => q
  | some (.ok a e), q => fun A' H' R F => h a e A' H' F (q A' H' R (f.trans F))
  | some (.ex x e), q => fun A' H' c d R F X => q A' H' c d R (f.trans F) X

end Tk
/-! Tk0: what makes a tuple, told with the tuple's own object: it has no dict. -/
namespace Tk
open PySem PySem.Spec PyProof.Rows L2
/-- a new tuple of these items, its object known -/
abbrev NewT (H : Hp) (Q : VK) (xs : List V) : Prop := ∀ (p : Addr) (o : Obj), H p = none → o.dict = none → Q (.ref p) (upd H p (.frz o (.tup xs)))
section
variable {X : Cx} {pins : List (Addr × Obj)} {σ : L2.St} {H : Hp} {s : Shared}
theorem ep_tup {Q : VK} {xs : List V} {its : List Value} {ar : Array Value} {h' : Heap} {t0 tk : Nat} (I : Inv X pins σ H { s with heap := h', toks := t0 }) (r : Vals xs its) (har : ar.toList = its) (hz : xs.length ≤ sizeLine) (q : NewT H Q xs) :
    EP X pins σ Q (.ref h'.objs.size) { s with heap := h'.push { cls := .type "tuple", data := .seq ar }, toks := tk } := by
  subst har
  exact ⟨.ref h'.objs.size, upd H h'.objs.size (.frz { cls := .type "tuple", data := .seq ar } (.tup xs)),
    I.laid (t' := tk) (fun b o e => Heap.get?_push_of_some _ e) (Nat.le_refl _) ⟨Heap.get?_push_size _ rfl, hz, ar.toList, r, by rw [Array.toArray_toList]; exact IsTup.new _ _⟩, rfl, q _ _ (I.hok.fresh (Nat.le_refl _)) rfl⟩
theorem ep_tup0 {Q : VK} {xs : List V} {its : List Value} {ar : Array Value} {tk : Nat} (I : Inv X pins σ H s) (r : Vals xs its) (har : ar.toList = its) (hz : xs.length ≤ sizeLine) (q : NewT H Q xs) :
    EP X pins σ Q (.ref s.heap.objs.size) { s with heap := s.heap.push { cls := .type "tuple", data := .seq ar }, toks := tk } := ep_tup (s := s) (h' := s.heap) (t0 := s.toks) I r har hz q
end
section
variable {X : Cx} {es : List Expr} {pos : Pos} {t : TA}
/-- a display -/
def tTupF (t : TA) : TE := fun σ H Q => t σ H fun xs H1 => xs.length ≤ sizeLine ∧ NewT H1 Q xs
theorem pe_tupF {x1 : Nat} (h : PA X es t) : PE X (.Tuple es x1 pos) (tTupF t) := ⟨fun pins s σ H Q I hq =>
  wpAny_Tuple_spliced (thn (h.run pos pins s σ H _ I hq) fun us s1 ⟨xs, H1, I1, r, z, q⟩ => ⟨r.length ▸ z, ep_tup0 I1 r (by simp) z q⟩)⟩
/-- tuple(x) -/
def rTupleF (K : PySem.W.Frag) : List V → Hp → VK → Prop := fun xs H Q => ∃ p ys, xs = [.ref p] ∧ ((SqL K H p ys ∧ NewT H Q ys) ∨ (SqT K H p ys ∧ Q (.ref p) H))
/-- t + u -/
def rCatF (K : PySem.W.Frag) : R2 := fun x y H Q => ∃ a b xs ys, x = .ref a ∧ y = .ref b ∧ SqT K H a xs ∧ SqT K H b ys ∧ xs.length + ys.length ≤ sizeLine ∧
  (xs = [] → Q (.ref b) H) ∧ (xs ≠ [] → ys = [] → Q (.ref a) H) ∧ (xs ≠ [] → ys ≠ [] → NewT H Q (xs ++ ys))
theorem op_catF : OpR X (binaryOp .Add) (rCatF X.K) := by
  rintro pins s σ H x y v u Q I rx ry ⟨a, b, xs, ys, rfl, rfl, ha, hb, hz, q0, q1, q2⟩
  by_cases hx : xs = []
  · exact op_catA pins s σ H _ _ v u Q I rx ry ⟨a, b, xs, ys, rfl, rfl, ha, hb, hz, q0, fun z => absurd hx z, fun z => absurd hx z⟩
  cases rx
  cases ry
  obtain ⟨its, r1, p1, _⟩ := I.tuple ha
  obtain ⟨its2, r2, p2, _⟩ := I.tuple hb
  exact HT.cat_tup p1 p2 (fun z => hx (r1.nil_iff.mp z)) (fun z => ⟨.ref a, H, I, rfl, q1 hx (r2.nil_iff.mp z)⟩)
    (fun z => ep_tup0 I (r1.append r2) (by simp) (by rw [List.length_append]; exact hz) (q2 hx fun w => z (r2.nil_iff.mpr w))) (by rw [← r1.length, ← r2.length]; exact hz)
/-- t[lo:hi] -/
def rSlF (K : PySem.W.Frag) : V → Option Int → Option Int → Hp → VK → Prop := fun x lo hi H Q => ∃ a xs, x = .ref a ∧ SqT K H a xs ∧
  (HT.sIx xs.length 0 lo = 0 ∧ HT.sIx xs.length xs.length hi = xs.length → Q (.ref a) H) ∧ (¬ (HT.sIx xs.length 0 lo = 0 ∧ HT.sIx xs.length xs.length hi = xs.length) → NewT H Q (cutV xs lo hi))
/-- divmod -/
def rDivF : List V → Hp → VK → Prop := fun xs H Q => ∃ i j, xs = [.int i, .int j] ∧ CDivP i j ∧ NewT H Q [.int (i / j), .int (i % j)]
theorem call_divmodF : CallR X (.builtin "divmod") rDivF := by
  rintro pins s σ H xs us Q I r ⟨i, j, rfl, ⟨h1, h2⟩, q⟩
  obtain ⟨u, w', rfl, ⟨t, rfl⟩, ⟨t', rfl⟩⟩ := vals2 r
  refine divmod_int (by omega) ?_ (.inl h2)
  rw [Int.fdiv_eq_ediv_of_nonneg i (by omega), Int.fmod_eq_emod_of_nonneg i (by omega)]
  exact ep_tup0 (xs := [.int (i / j), .int (i % j)]) (its := [.int (i / j) s.toks, .int (i % j) (s.toks + 1)]) I (.cons (by exact ⟨_, rfl⟩) (.cons (by exact ⟨_, rfl⟩) .nil)) rfl (by show 2 ≤ sizeLine; decide) q
/-- x.partition(y) -/
def rPartF : V → List V → Hp → VK → Prop := fun x xs H Q => ∃ a b, x = .str a ∧ xs = [.str b] ∧ (b.length == 0) = false ∧ a.length ≤ sizeLine ∧ NewT H Q [.str (Txt.partition a b).1, .str (Txt.partition a b).2.1, .str (Txt.partition a b).2.2]
end
end Tk
/-! Tk2: expressions. -/
namespace Tk
open PySem L2

/-! ### small words -/
theorem PE_imp {X : Cx} {e : Expr} {t t' : TE} (h : PE X e t) (i : ∀ σ H Q, t' σ H Q → t σ H Q) : PE X e t' := ⟨fun pins s σ H Q I q => h.run pins s σ H Q I (i σ H Q q)⟩
theorem PT_imp {X : Cx} {e : Expr} {t t' : TT} (h : PT X e t) (i : ∀ σ H Q, t' σ H Q → t σ H Q) : PT X e t' := ⟨fun pins s σ H Q I q => h.run pins s σ H Q I (i σ H Q q)⟩
theorem PW_imp {X : Cx} {e : Expr} {t t' : TT} (h : PW X e t) (i : ∀ σ H Q, t' σ H Q → t σ H Q) : PW X e t' := ⟨fun wh pins s σ H Q I q => h.run wh pins s σ H Q I (i σ H Q q)⟩
theorem PA_imp {X : Cx} {e : List Expr} {t t' : TA} (h : PA X e t) (i : ∀ σ H Q, t' σ H Q → t σ H Q) : PA X e t' := ⟨fun pos pins s σ H Q I q => h.run pos pins s σ H Q I (i σ H Q q)⟩
theorem PS_imp {X : Cx} {e : Stmt} {t t' : TS} (h : PS X e t) (i : ∀ D σ H, t' D σ H → t D σ H) : PS X e t' := ⟨fun pins s σ H D I q => h.run pins s σ H D I (i D σ H q)⟩
theorem PSs_imp {X : Cx} {e : List Stmt} {t t' : TS} (h : PSs X e t) (i : ∀ D σ H, t' D σ H → t D σ H) : PSs X e t' := ⟨fun pins s σ H D I q => h.run pins s σ H D I (i D σ H q)⟩

structure Good (G : Tb) (X : Cx) : Prop where
  calm : X.calm = true
  kk : X.K = G.K
  nd : X.N.Nodup
  un : X.A.units + 150 < cLine
  gu : X.A.guards = some []

/-- what comes out of an operation -/
inductive RV where
  | dat (d : D)
  | fresh (d : D)
def RV.out : RV → Out
  | .dat d => .dat d
  | .fresh d => .fresh d

def peek (env : Env) : Out → Option D
  | .dat d => some d
  | .fresh d => some d
  | .slot i => match env[i]? with
    | some (some (.dat d)) => some d
    | some (some (.own d)) => some d
    | _ => none

/-- data, its top perhaps hidden -/
def RepT (G : Tb) (A : Hid) (H : Hp) (d : D) (v : V) : Prop := RepD G A H d v ∨ ∃ p, v = .ref p ∧ A p ∧ RepTop G A H d p

structure Ext (A : Hid) (H : Hp) (A' : Hid) (H' : Hp) : Prop where
  same : ∀ a o, H a = some o → H' a = some o ∧ (A' a ↔ A a)
  tup : TupOk A' H'
theorem Ext.stab {A A' : Hid} {H H' : Hp} (x : Ext A H A' H') : Stab A H A' H' := fun a o e n => ⟨(x.same a o e).1, fun z => n ((x.same a o e).2.mp z)⟩
theorem Ext.refl {A : Hid} {H : Hp} (t : TupOk A H) : Ext A H A H := ⟨fun _ _ h => ⟨h, Iff.rfl⟩, t⟩

def RvOk (G : Tb) (H : Hp) (A' : Hid) (H' : Hp) : RV → V → Prop
  | .dat d, v => RepD G A' H' d v
  | .fresh d, v => ∃ p, v = .ref p ∧ H p = none ∧ A' p ∧ RepTop G A' H' d p

section
variable {G : Tb} {A A' : Hid} {σ : St} {H H' H0 : Hp} {env : Env}

theorem peek_ok {o : Out} {v : V} {d : D} (R : Rep G A σ H env) (h : OutOk G H0 A σ H env o v) (e : peek env o = some d) : RepT G A H d v := by
  cases o with
  | dat d' =>
    have e' : d' = d := Option.some.inj e
    subst e'
    exact .inl h
  | fresh d' =>
    have e' : d' = d := Option.some.inj e
    subst e'
    obtain ⟨p, e1, _, a, _, t⟩ := h
    exact .inr ⟨p, e1, a, t⟩
  | slot i =>
    have h : σ[i]? = some (some v) := h
    unfold peek at e
    simp only at e
    split at e
    · rename_i d' e1
      have e' : d' = d := Option.some.inj e
      subst e'
      obtain ⟨u, e2, c⟩ := R.cell i _ e1
      rw [h] at e2
      cases e2
      exact .inl c
    · rename_i d' e1
      have e' : d' = d := Option.some.inj e
      subst e'
      obtain ⟨u, e2, p, e3, a, t⟩ := R.cell i _ e1
      rw [h] at e2
      cases e2
      exact .inr ⟨p, e3, a, t⟩
    · cases e

theorem Rep.own_some (R : Rep G A σ H env) {p : Addr} (o : Own σ env p) : ∃ x, H p = some x := by
  obtain ⟨x, e, _⟩ := R.tup p (R.own_hid o)
  exact ⟨x, e⟩

theorem Ext.rep (x : Ext A H A' H') (R : Rep G A σ H env) : Rep G A' σ H' env := by
  refine ⟨R.len, x.tup, fun i c e => ?_, R.inj⟩
  obtain ⟨v, e1, k⟩ := R.cell i c e
  refine ⟨v, e1, ?_⟩
  cases c with
  | dat d => exact RepD.mono x.stab R.tup d v k
  | exc y => exact CellOk.exc_mono x.stab R.tup k
  | own d =>
    obtain ⟨p, e2, a, t⟩ := k
    obtain ⟨o, e3, _⟩ := R.tup p a
    exact ⟨p, e2, (x.same p o e3).2.mpr a, t.mono x.stab R.tup fun o' q => (x.same p o' q).1⟩
theorem Ext.fr (x : Ext A H A' H') (O : Hid) : Fr O A H O A' H' := ⟨fun a o h _ => x.same a o h, fun p h => .inl h, fun a o h => ⟨o, (x.same a o h).1⟩⟩

theorem OutOk.mono {A1 A2 : Hid} {H1 H2 : Hp} {env1 env2 : Env} {o : Out} {v : V} (R1 : Rep G A1 σ H1 env1) (f : Fr (Own σ env1) A1 H1 (Own σ env2) A2 H2) (h : OutOk G H0 A1 σ H1 env1 o v) : OutOk G H0 A2 σ H2 env2 o v := by
  have s : Stab A1 H1 A2 H2 := f.stab fun p q => R1.own_hid q
  cases o with
  | dat d => exact RepD.mono s R1.tup d v h
  | fresh d =>
    obtain ⟨p, e1, e2, a, n, t⟩ := h
    obtain ⟨o, e3, _⟩ := R1.tup p a
    refine ⟨p, e1, e2, (f.keep p o e3 n).2.mpr a, fun z => ?_, t.mono s R1.tup fun o' q => (f.keep p o' q n).1⟩
    rcases f.own p z with q | q
    · exact n q
    · rw [e3] at q
      cases q
  | slot i => exact h
/-- an earlier heap ahead -/
theorem OutOk.base {H1 : Hp} {o : Out} {v : V} (k : ∀ p, H0 p = none → H1 p = none) (h : OutOk G H0 A σ H env o v) : OutOk G H1 A σ H env o v := by
  cases o with
  | dat d => exact h
  | fresh d =>
    obtain ⟨p, e1, e2, r⟩ := h
    exact ⟨p, e1, k p e2, r⟩
  | slot i => exact h
theorem RvOk.out {rv : RV} {v : V} (R : Rep G A σ H env) (k : ∀ p, H p = none → H0 p = none) (h : RvOk G H A' H' rv v) : OutOk G H0 A' σ H' env rv.out v := by
  cases rv with
  | dat d => exact h
  | fresh d =>
    obtain ⟨p, e1, e2, a, t⟩ := h
    refine ⟨p, e1, k p e2, a, fun z => ?_, t⟩
    obtain ⟨x, e⟩ := R.own_some z
    rw [e2] at e
    cases e
end

/-! ### readings -/
section
variable (G : Tb) (XR : XW) (W : WX)
def tEv (f : EF) : TE := fun σ H Q => ∃ A env, Rep G A σ H env ∧ Post G XR W σ A H env (fun o e A' H' => ∀ v, OutOk G H A' σ H' e o v → Q v H') (f env)
abbrev UF := Env → Option (Rs D)
abbrev AF := Env → Option (Rs (List D))
abbrev TF := Env → Option (Rs Bool)
def tEvU (f : UF) : TE := fun σ H Q => ∃ A env, Rep G A σ H env ∧ Post G XR W σ A H env (fun d _ A' H' => ∀ v, RepD G A' H' d v → Q v H') (f env)
def tEvA (f : AF) : TA := fun σ H Q => ∃ A env, Rep G A σ H env ∧ Post G XR W σ A H env (fun ds _ A' H' => ∀ vs, RepDs G A' H' ds vs → Q vs H') (f env)
def tEvT (f : TF) : TT := fun σ H Q => ∃ A env, Rep G A σ H env ∧ Post G XR W σ A H env (fun b _ _ H' => Q b H') (f env)
end

section
variable {G : Tb} {XR : XW} {W : WX} {X : Cx}

/-- one after another -/
theorem ev_seq {β : Type} {f : EF} {k : Out → Env → Option (Rs β)} {KK : β → Env → Hid → Hp → Prop} {σ : St} {A : Hid} {H : Hp} {env : Env} (R : Rep G A σ H env) (p : Post G XR W σ A H env KK (bd (f env) k)) :
    tEv G XR W f σ H (fun x H1 => ∃ A1 env1 o1, Rep G A1 σ H1 env1 ∧ OutOk G H A1 σ H1 env1 o1 x ∧ Fr (Own σ env) A H (Own σ env1) A1 H1 ∧ Post G XR W σ A1 H1 env1 KK (k o1 env1)) := by
  refine ⟨A, env, R, ?_⟩
  cases hf : f env with
  | none =>
    rw [hf] at p
    exact p
  | some r =>
    rw [hf] at p
    cases r with
    | ok o e1 => exact fun A1 H1 R1 F1 v ov => ⟨A1, e1, o, R1, ov, F1, Post.imp F1 (fun _ _ _ _ _ q => q) p⟩
    | ex x e1 => exact p
theorem evU_seq {β : Type} {f : UF} {k : D → Env → Option (Rs β)} {KK : β → Env → Hid → Hp → Prop} {σ : St} {A : Hid} {H : Hp} {env : Env} (R : Rep G A σ H env) (p : Post G XR W σ A H env KK (bd (f env) k)) :
    tEvU G XR W f σ H (fun x H1 => ∃ A1 env1 d1, Rep G A1 σ H1 env1 ∧ RepD G A1 H1 d1 x ∧ Fr (Own σ env) A H (Own σ env1) A1 H1 ∧ Post G XR W σ A1 H1 env1 KK (k d1 env1)) := by
  refine ⟨A, env, R, ?_⟩
  cases hf : f env with
  | none =>
    rw [hf] at p
    exact p
  | some r =>
    rw [hf] at p
    cases r with
    | ok o e1 => exact fun A1 H1 R1 F1 v ov => ⟨A1, e1, o, R1, ov, F1, Post.imp F1 (fun _ _ _ _ _ q => q) p⟩
    | ex x e1 => exact p
theorem evA_seq {β : Type} {f : AF} {k : List D → Env → Option (Rs β)} {KK : β → Env → Hid → Hp → Prop} {σ : St} {A : Hid} {H : Hp} {env : Env} (R : Rep G A σ H env) (p : Post G XR W σ A H env KK (bd (f env) k)) :
    tEvA G XR W f σ H (fun x H1 => ∃ A1 env1 d1, Rep G A1 σ H1 env1 ∧ RepDs G A1 H1 d1 x ∧ Fr (Own σ env) A H (Own σ env1) A1 H1 ∧ Post G XR W σ A1 H1 env1 KK (k d1 env1)) := by
  refine ⟨A, env, R, ?_⟩
  cases hf : f env with
  | none =>
    rw [hf] at p
    exact p
  | some r =>
    rw [hf] at p
    cases r with
    | ok o e1 => exact fun A1 H1 R1 F1 v ov => ⟨A1, e1, o, R1, ov, F1, Post.imp F1 (fun _ _ _ _ _ q => q) p⟩
    | ex x e1 => exact p
theorem evT_seq {β : Type} {f : TF} {k : Bool → Env → Option (Rs β)} {KK : β → Env → Hid → Hp → Prop} {σ : St} {A : Hid} {H : Hp} {env : Env} (R : Rep G A σ H env) (p : Post G XR W σ A H env KK (bd (f env) k)) :
    tEvT G XR W f σ H (fun b H1 => ∃ A1 env1, Rep G A1 σ H1 env1 ∧ Fr (Own σ env) A H (Own σ env1) A1 H1 ∧ Post G XR W σ A1 H1 env1 KK (k b env1)) := by
  refine ⟨A, env, R, ?_⟩
  cases hf : f env with
  | none =>
    rw [hf] at p
    exact p
  | some r =>
    rw [hf] at p
    cases r with
    | ok o e1 => exact fun A1 H1 R1 F1 => ⟨A1, e1, R1, F1, Post.imp F1 (fun _ _ _ _ _ q => q) p⟩
    | ex x e1 => exact p

/-- readings grow with the wish -/
theorem tEv.imp {f : EF} {σ : St} {H : Hp} {Q Q' : VK} (h : tEv G XR W f σ H Q) (i : ∀ v H', Q v H' → Q' v H') : tEv G XR W f σ H Q' := by
  obtain ⟨A, env, R, p⟩ := h
  exact ⟨A, env, R, Post.imp (Fr.refl _ _ _) (fun _ _ _ _ _ q v o => i _ _ (q v o)) p⟩
theorem tEvU.imp {f : UF} {σ : St} {H : Hp} {Q Q' : VK} (h : tEvU G XR W f σ H Q) (i : ∀ v H', Q v H' → Q' v H') : tEvU G XR W f σ H Q' := by
  obtain ⟨A, env, R, p⟩ := h
  exact ⟨A, env, R, Post.imp (Fr.refl _ _ _) (fun _ _ _ _ _ q v o => i _ _ (q v o)) p⟩
theorem tEvA.imp {f : AF} {σ : St} {H : Hp} {Q Q' : List V → Hp → Prop} (h : tEvA G XR W f σ H Q) (i : ∀ v H', Q v H' → Q' v H') : tEvA G XR W f σ H Q' := by
  obtain ⟨A, env, R, p⟩ := h
  exact ⟨A, env, R, Post.imp (Fr.refl _ _ _) (fun _ _ _ _ _ q v o => i _ _ (q v o)) p⟩
theorem tEvT.imp {f : TF} {σ : St} {H : Hp} {Q Q' : Bool → Hp → Prop} (h : tEvT G XR W f σ H Q) (i : ∀ v H', Q v H' → Q' v H') : tEvT G XR W f σ H Q' := by
  obtain ⟨A, env, R, p⟩ := h
  exact ⟨A, env, R, Post.imp (Fr.refl _ _ _) (fun _ _ _ _ _ q => i _ _ q) p⟩

/-- the end of an operation -/
theorem fin_rv {σ : St} {A A' : Hid} {H H0 H' : Hp} {env : Env} {Q : VK} {rv : RV} {v : V} (R : Rep G A σ H env) (k : ∀ p, H p = none → H0 p = none)
    (p : Post G XR W σ A H env (fun o e A' H' => ∀ v, OutOk G H0 A' σ H' e o v → Q v H') (some (.ok rv.out env))) (x : Ext A H A' H') (h : RvOk G H A' H' rv v) : Q v H' :=
  p A' H' (x.rep R) (x.fr _) v (h.out R k)

/-! ### names, constants -/
def cName (i : Nat) : EF := fun env => match env[i]? with
  | some (some _) => some (.ok (.slot i) env)
  | _ => none
theorem ev_name {e : Expr} {i : Nat} (h : PE X e (tVar i)) : PE X e (tEv G XR W (cName i)) := PE_imp h fun σ H Q ⟨A, env, R, p⟩ => by
  unfold cName at p
  split at p
  · rename_i c e1
    obtain ⟨v, e2, _⟩ := R.cell i c e1
    exact ⟨v, e2, p A H R (Fr.refl _ _ _) v e2⟩
  · exact p.elim
def cC (d : D) : EF := fun env => some (.ok (.dat d) env)
theorem ev_c {e : Expr} {d : D} {v : V} (h : PE X e (tC v)) (r : ∀ A H, RepD G A H d v) : PE X e (tEv G XR W (cC d)) := PE_imp h fun σ H Q ⟨A, env, R, p⟩ => p A H R (Fr.refl _ _ _) v (r A H)
theorem ev_int {i j pos} : PE X (.Constant (.int i) j pos) (tEv G XR W (cC (.int i))) := ev_c pe_int fun _ _ => by unfold RepD; rfl
theorem ev_bl {i j pos} : PE X (.Constant (.bool i) j pos) (tEv G XR W (cC (.bl i))) := ev_c pe_bl fun _ _ => by unfold RepD; rfl
theorem ev_str {i j pos} : PE X (.Constant (.str i) j pos) (tEv G XR W (cC (.str i))) := ev_c pe_str fun _ _ => by unfold RepD; rfl
/-! ### operations of one, two places -/
def fin1 (F : D → Option RV) (e : Env) (o : Out) : Option (Rs Out) := match peek e o with
  | some d => match F d with
    | some rv => some (.ok rv.out e)
    | none => none
  | none => none
def fin2 (F : D → D → Option RV) (e : Env) (o o' : Out) : Option (Rs Out) := match peek e o, peek e o' with
  | some d, some d' => match F d d' with
    | some rv => some (.ok rv.out e)
    | none => none
  | _, _ => none
def cUn (F : D → Option RV) (f : EF) : EF := fun env => bd (f env) fun o e => fin1 F e o
def cBin (F : D → D → Option RV) (f g : EF) : EF := fun env => bd (f env) fun o e => bd (g e) fun o' e' => fin2 F e' o o'

def Op1 (G : Tb) (r : V → Hp → VK → Prop) (F : D → Option RV) : Prop := ∀ (d : D) (rv : RV) (A : Hid) (H : Hp) (x : V) (Q : VK), F d = some rv → TupOk A H → RepT G A H d x → (∀ v A' H', Ext A H A' H' → RvOk G H A' H' rv v → Q v H') → r x H Q
def Op2 (G : Tb) (r : R2) (F : D → D → Option RV) : Prop := ∀ (d d' : D) (rv : RV) (A : Hid) (H : Hp) (x y : V) (Q : VK), F d d' = some rv → TupOk A H → RepT G A H d x → RepT G A H d' y →
  (∀ v A' H', Ext A H A' H' → RvOk G H A' H' rv v → Q v H') → r x y H Q

theorem use1 {r : V → Hp → VK → Prop} {F : D → Option RV} (hF : Op1 G r F) {f : EF} {σ : St} {H : Hp} {Q : VK} (h : tEv G XR W (cUn F f) σ H Q) : tEv G XR W f σ H fun x H1 => r x H1 Q := by
  obtain ⟨A, env, R, p⟩ := h
  refine (ev_seq R p).imp fun x H1 ⟨A1, e1, o1, R1, ok, F1, p1⟩ => ?_
  unfold fin1 at p1
  split at p1
  · rename_i d hd
    split at p1
    · rename_i rv hr
      exact hF d rv A1 H1 x Q hr R1.tup (peek_ok R1 ok hd) fun v A' H' ex ro => fin_rv R1 (fun p q => F1.none q) p1 ex ro
    · exact p1.elim
  · exact p1.elim
theorem use2 {r : R2} {F : D → D → Option RV} (hF : Op2 G r F) {f g : EF} {σ : St} {H : Hp} {Q : VK} (h : tEv G XR W (cBin F f g) σ H Q) : tEv G XR W f σ H fun x H1 => tEv G XR W g σ H1 fun y H2 => r x y H2 Q := by
  obtain ⟨A, env, R, p⟩ := h
  refine (ev_seq R p).imp fun x H1 ⟨A1, e1, o1, R1, ok, F1, p1⟩ => ?_
  refine (ev_seq R1 p1).imp fun y H2 ⟨A2, e2, o2, R2, ok2, F2, p2⟩ => ?_
  have okx := ok.mono R1 F2
  unfold fin2 at p2
  split at p2
  · rename_i d d' hd hd'
    split at p2
    · rename_i rv hr
      exact hF d d' rv A2 H2 x y Q hr R2.tup (peek_ok R2 okx hd) (peek_ok R2 ok2 hd') fun v A' H' ex ro => fin_rv R2 (fun p q => F1.none (F2.none q)) p2 ex ro
    · exact p2.elim
  · exact p2.elim

theorem ev_op {a b : Expr} {pos : Pos} {op : Operator} {r : R2} {F : D → D → Option RV} {f g : EF} (ho : OpR X (binaryOp op) r) (hF : Op2 G r F) (ha : PE X a (tEv G XR W f)) (hb : PE X b (tEv G XR W g)) : PE X (.BinOp a op b pos) (tEv G XR W (cBin F f g)) :=
  PE_imp (pe_op ho ha hb) fun _ _ _ h => use2 hF h
theorem ev_cmp {a b : Expr} {pos : Pos} {op : CmpOp} {r : R2} {F : D → D → Option RV} {f g : EF} (ho : OpR X (compareOp op) r) (hF : Op2 G r F) (ha : PE X a (tEv G XR W f)) (hb : PE X b (tEv G XR W g)) (hm : behindInMarks op b = false) :
    PE X (.Compare a [op] [b] pos) (tEv G XR W (cBin F f g)) := PE_imp (pe_cmpR ho ha hb hm) fun _ _ _ h => use2 hF h
theorem ev_ix {a b : Expr} {pos : Pos} {r : R2} {F : D → D → Option RV} {f g : EF} (ho : IxR X r) (hF : Op2 G r F) (ha : PE X a (tEv G XR W f)) (hb : PE X b (tEv G XR W g)) (hs : PlainIx b) : PE X (.Subscript a b pos) (tEv G XR W (cBin F f g)) :=
  PE_imp (pe_ix ho ha hb hs) fun _ _ _ h => use2 hF h

/-! ### built-in calls -/
def Cb1 (G : Tb) (r : List V → Hp → VK → Prop) (F : D → Option RV) : Prop := Op1 G (fun x H Q => r [x] H Q) F
def Cb2 (G : Tb) (r : List V → Hp → VK → Prop) (F : D → D → Option RV) : Prop := Op2 G (fun x y H Q => r [x, y] H Q) F
section
variable {x : Str} {p pos : Pos} {a b : Expr} {id T : String} {r : List V → Hp → VK → Prop} {f g : EF}
theorem ev_callB1 {F : D → Option RV} (hc : CallR X (.builtin id) r) (hF : Cb1 G r F) (hg : Gl X x) (hm : X.mg x = none) (hv : bootBuiltins x = some (.builtin id)) (ha : PE X a (tEv G XR W f)) (hn : x ≠ "__name__" := by decide)
    (hdb : (x == ("__debug__" : Str)) = false := by decide) (hs : starEach [a] X.env = [(false, eval a X.env)] := by rfl) : PE X (.Call (.Name x p) [a] [] pos) (tEv G XR W (cUn F f)) :=
  PE_imp (pe_callB hc hg hm hv (pa_cons ha pa_nil hs) hn hdb hs rfl) fun _ _ _ h => use1 hF h
theorem ev_callB2 {F : D → D → Option RV} (hc : CallR X (.builtin id) r) (hF : Cb2 G r F) (hg : Gl X x) (hm : X.mg x = none) (hv : bootBuiltins x = some (.builtin id)) (ha : PE X a (tEv G XR W f)) (hb : PE X b (tEv G XR W g)) (hn : x ≠ "__name__" := by decide)
    (hdb : (x == ("__debug__" : Str)) = false := by decide) (hs : starEach [a, b] X.env = (false, eval a X.env) :: starEach [b] X.env := by rfl) (hs2 : starEach [b] X.env = [(false, eval b X.env)] := by rfl) (hpl : (backTo pos (starEach [b] X.env)).any (·.1) = false := by rfl) :
    PE X (.Call (.Name x p) [a, b] [] pos) (tEv G XR W (cBin F f g)) :=
  PE_imp (pe_callB hc hg hm hv (pa_cons ha (pa_cons hb pa_nil hs2) hs) hn hdb hs hpl) fun _ _ _ h => use2 hF h
theorem ev_callT1 {F : D → Option RV} (hc : CallR X (.type T) r) (hF : Cb1 G r F) (hg : Gl X x) (hm : X.mg x = none) (hv : bootBuiltins x = some (.type T)) (ha : PE X a (tEv G XR W f)) (hn : x ≠ "__name__" := by decide)
    (hdb : (x == ("__debug__" : Str)) = false := by decide) (hs : starEach [a] X.env = [(false, eval a X.env)] := by rfl) : PE X (.Call (.Name x p) [a] [] pos) (tEv G XR W (cUn F f)) :=
  PE_imp (pe_callTy hc hg hm hv (pa_cons ha pa_nil hs) hn hdb hs rfl) fun _ _ _ h => use1 hF h
end

/-! ### data used: an own thing is own no more -/
def use (env : Env) : Out → Option (Rs D)
  | .dat d => some (.ok d env)
  | .fresh d => some (.ok d env)
  | .slot i => match env[i]? with
    | some (some (.dat d)) => some (.ok d env)
    | some (some (.own d)) => some (.ok d (env.set i (some (.dat d))))
    | _ => none
def cUse (f : EF) : UF := fun env => bd (f env) fun o e => use e o

theorem sub_stab {A A' : Hid} {H : Hp} (h : ∀ p, A' p → A p) : Stab A H A' H := fun _ _ e n => ⟨e, fun z => n (h _ z)⟩
theorem TupOk.sub {A A' : Hid} {H : Hp} (t : TupOk A H) (h : ∀ p, A' p → A p) : TupOk A' H := fun p q => t p (h p q)

/-- a fresh thing let go -/
theorem Rep.letGo {σ : St} {A : Hid} {H : Hp} {env : Env} (R : Rep G A σ H env) {p : Addr} (n : ¬ Own σ env p) : Rep G (fun a => A a ∧ a ≠ p) σ H env := by
  have hs : ∀ a, (A a ∧ a ≠ p) → A a := fun _ h => h.1
  refine ⟨R.len, R.tup.sub hs, fun i c e => ?_, R.inj⟩
  obtain ⟨v, e1, k⟩ := R.cell i c e
  refine ⟨v, e1, ?_⟩
  cases c with
  | dat d => exact RepD.mono (sub_stab hs) R.tup d v k
  | exc y => exact CellOk.exc_mono (sub_stab hs) R.tup k
  | own d =>
    obtain ⟨q, e2, a, t⟩ := k
    subst e2
    exact ⟨q, rfl, ⟨a, fun z => n ⟨i, d, e, z ▸ e1⟩⟩, t.mono (sub_stab hs) R.tup fun _ z => z⟩
theorem get_set_ne {env : Env} {i j : Nat} {c : Option Cell} (h : i ≠ j) : (env.set i c)[j]? = env[j]? := by
  rw [List.getElem?_set_ne h]
theorem get_set_self {env : Env} {i : Nat} {c c' : Option Cell} (h : env[i]? = some c') : (env.set i c)[i]? = some c := by
  have hl : i < env.length := (List.getElem?_eq_some_iff.mp h).1
  rw [List.getElem?_set_self hl]
theorem Rep.freeze {σ : St} {A : Hid} {H : Hp} {env : Env} (R : Rep G A σ H env) {i : Nat} {d : D} {p : Addr} (e : env[i]? = some (some (.own d))) (es : σ[i]? = some (some (.ref p))) :
    Rep G (fun a => A a ∧ a ≠ p) σ H (env.set i (some (.dat d))) ∧ (∀ q, Own σ (env.set i (some (.dat d))) q → Own σ env q ∧ q ≠ p) ∧ RepD G (fun a => A a ∧ a ≠ p) H d (.ref p) := by
  have hs : ∀ a, (A a ∧ a ≠ p) → A a := fun _ h => h.1
  obtain ⟨v, e1, q, e2, a, t⟩ := R.cell i _ e
  rw [es] at e1
  cases e1
  cases e2
  have rd : RepD G (fun a => A a ∧ a ≠ p) H d (.ref p) := (t.mono (sub_stab hs) R.tup fun _ z => z).dat fun z => z.2 rfl
  have ow : ∀ q, Own σ (env.set i (some (.dat d))) q → Own σ env q ∧ q ≠ p := fun q ⟨j, d', k1, k2⟩ => by
    by_cases hj : i = j
    · subst hj
      rw [get_set_self e] at k1
      cases k1
    · rw [get_set_ne hj] at k1
      exact ⟨⟨j, d', k1, k2⟩, fun z => hj (R.inj i j d d' (.ref p) e k1 es (z ▸ k2))⟩
  refine ⟨⟨by rw [List.length_set]; exact R.len, R.tup.sub hs, fun j c k => ?_, fun j1 j2 d1 d2 w k1 k2 k3 k4 => ?_⟩, ow, rd⟩
  · by_cases hj : i = j
    · subst hj
      rw [get_set_self e] at k
      cases k
      exact ⟨_, es, rd⟩
    · rw [get_set_ne hj] at k
      obtain ⟨u, e3, c3⟩ := R.cell j c k
      refine ⟨u, e3, ?_⟩
      cases c with
      | dat d' => exact RepD.mono (sub_stab hs) R.tup d' u c3
      | exc y => exact CellOk.exc_mono (sub_stab hs) R.tup c3
      | own d' =>
        obtain ⟨q, e4, a4, t4⟩ := c3
        subst e4
        exact ⟨q, rfl, ⟨a4, fun z => hj (R.inj i j d d' (.ref p) e k es (z ▸ e3))⟩, t4.mono (sub_stab hs) R.tup fun _ z => z⟩
  · have g : ∀ (j : Nat) (d' : D), (env.set i (some (.dat d)))[j]? = some (some (Cell.own d')) → env[j]? = some (some (.own d')) := fun j d' k => by
      by_cases hj : i = j
      · subst hj
        rw [get_set_self e] at k
        cases k
      · rw [get_set_ne hj] at k
        exact k
    exact R.inj j1 j2 d1 d2 w (g _ _ k1) (g _ _ k2) k3 k4

theorem use_ok {σ : St} {A A0 : Hid} {H H0 : Hp} {env env0 env' : Env} {o : Out} {v : V} {d : D} (R : Rep G A σ H env) (F0 : Fr (Own σ env0) A0 H0 (Own σ env) A H) (h : OutOk G H0 A σ H env o v) (e : use env o = some (.ok d env')) :
    ∃ A', Rep G A' σ H env' ∧ Fr (Own σ env0) A0 H0 (Own σ env') A' H ∧ RepD G A' H d v ∧ Stab A H A' H := by
  cases o with
  | dat d' =>
    cases e
    exact ⟨A, R, F0, h, Stab.refl _ _⟩
  | fresh d' =>
    cases e
    obtain ⟨p, e1, e2, a, n, t⟩ := h
    subst e1
    have hs : ∀ a, (A a ∧ a ≠ p) → A a := fun _ h => h.1
    refine ⟨fun a => A a ∧ a ≠ p, R.letGo n, ⟨fun b x hb nb => ⟨(F0.keep b x hb nb).1, ?_⟩, F0.own, F0.dom⟩, (t.mono (sub_stab hs) R.tup fun _ z => z).dat fun z => z.2 rfl, sub_stab hs⟩
    refine Iff.trans ⟨fun z => z.1, fun z => ⟨z, fun w => ?_⟩⟩ (F0.keep b x hb nb).2
    rw [w, e2] at hb
    cases hb
  | slot i =>
    have h : σ[i]? = some (some v) := h
    unfold use at e
    simp only at e
    split at e
    · rename_i d' e1
      cases e
      obtain ⟨u, e2, c⟩ := R.cell i _ e1
      rw [h] at e2
      cases e2
      exact ⟨A, R, F0, c, Stab.refl _ _⟩
    · rename_i d' e1
      cases e
      obtain ⟨u, e2, p, e3, a, t⟩ := R.cell i _ e1
      rw [h] at e2
      cases e2
      subst e3
      obtain ⟨r1, r2, r3⟩ := R.freeze e1 h
      have hs : ∀ a, (A a ∧ a ≠ p) → A a := fun _ h => h.1
      refine ⟨_, r1, ⟨fun b x hb nb => ⟨(F0.keep b x hb nb).1, ?_⟩, fun q hq => F0.own q (r2 q hq).1, F0.dom⟩, r3, sub_stab hs⟩
      refine Iff.trans ⟨fun z => z.1, fun z => ⟨z, fun w => ?_⟩⟩ (F0.keep b x hb nb).2
      rcases F0.own b ⟨i, d, e1, w ▸ h⟩ with q | q
      · exact nb q
      · rw [q] at hb
        cases hb
    · cases e

theorem ev_use {e : Expr} {f : EF} (h : PE X e (tEv G XR W f)) : PE X e (tEvU G XR W (cUse f)) := PE_imp h fun σ H Q ⟨A, env, R, p⟩ => by
  refine ⟨A, env, R, ?_⟩
  unfold cUse at p
  cases hf : f env with
  | none =>
    rw [hf] at p
    exact p
  | some r =>
    rw [hf] at p
    cases r with
    | ok o e1 =>
      intro A1 H1 R1 F1 v ov
      rw [bd_ok] at p
      cases hu : use e1 o with
      | none =>
        rw [hu] at p
        exact p.elim
      | some r2 =>
        rw [hu] at p
        cases r2 with
        | ok d e2 =>
          obtain ⟨A2, R2, F2, r, _⟩ := use_ok R1 F1 ov hu
          exact p A2 H1 R2 F2 v r
        | ex x e2 =>
          exfalso
          cases o with
          | dat d => cases hu
          | fresh d => cases hu
          | slot i =>
            unfold use at hu
            simp only at hu
            split at hu <;> cases hu
    | ex x e1 => exact p

/-! ### arguments, displays -/
def aNil : AF := fun env => some (.ok [] env)
def aCons (f : EF) (r : AF) : AF := fun env => bd (cUse f env) fun d e => bd (r e) fun ds e2 => some (.ok (d :: ds) e2)
theorem ea_nil : PA X [] (tEvA G XR W aNil) := PA_imp pa_nil fun σ H Q ⟨A, env, R, p⟩ => p A H R (Fr.refl _ _ _) [] .nil
theorem ea_cons {e : Expr} {es : List Expr} {f : EF} {r : AF} (h : PE X e (tEv G XR W f)) (hr : PA X es (tEvA G XR W r)) (hs : starEach (e :: es) X.env = (false, eval e X.env) :: starEach es X.env := by rfl) : PA X (e :: es) (tEvA G XR W (aCons f r)) :=
  PA_imp (pa_cons (ev_use h) hr hs) fun σ H Q ⟨A, env, R, p⟩ => by
    refine (evU_seq R p).imp fun x H1 ⟨A1, e1, d1, R1, k1, F1, p1⟩ => ?_
    refine (evA_seq R1 p1).imp fun xs H2 ⟨A2, e2, ds, R2, k2, F2, p2⟩ => ?_
    exact p2 A2 H2 R2 (Fr.refl _ _ _) (x :: xs) (.cons (RepD.mono (F2.stab fun p q => R1.own_hid q) R1.tup _ _ k1) k2)

/-- a new thing at a free place -/
theorem Ext.newTup {A : Hid} {H : Hp} (t : TupOk A H) {p : Addr} (n : H p = none) (o : HO) : Ext A H A (upd H p o) := by
  refine ⟨fun a x h => ⟨?_, Iff.rfl⟩, fun q hq => ?_⟩
  · rw [upd_ne (ne_of_none h n)]
    exact h
  · obtain ⟨x, e, r⟩ := t q hq
    refine ⟨x, ?_, r⟩
    rw [upd_ne (ne_of_none e n)]
    exact e
theorem Ext.newOwn {A : Hid} {H : Hp} (t : TupOk A H) {p : Addr} (n : H p = none) {o : HO} (h1 : ∀ xs, o ≠ .tup xs) (h2 : ∀ o' xs, o ≠ .frz o' (.tup xs)) : Ext A H (fun a => A a ∨ a = p) (upd H p o) := by
  refine ⟨fun a x h => ⟨?_, ⟨fun z => ?_, .inl⟩⟩, fun q hq => ?_⟩
  · rw [upd_ne (ne_of_none h n)]
    exact h
  · rcases z with z | z
    · exact z
    · rw [z, n] at h
      cases h
  · by_cases e : q = p
    · subst e
      exact ⟨o, upd_same, h1, h2⟩
    · rcases hq with hq | hq
      · obtain ⟨x, e', r⟩ := t q hq
        refine ⟨x, ?_, r⟩
        rw [upd_ne e]
        exact e'
      · exact absurd hq e
theorem rv_tup {A : Hid} {H : Hp} (t : TupOk A H) {ds : List D} {vs : List V} (r : RepDs G A H ds vs) {p : Addr} {o : Obj} (n : H p = none) (hd : o.dict = none) : RvOk G H A (upd H p (.frz o (.tup vs))) (.dat (.tup ds)) (.ref p) := by
  show RepD G A (upd H p (.frz o (.tup vs))) (.tup ds) (.ref p)
  unfold RepD
  exact ⟨p, vs, rfl, .inl ⟨o, upd_same, hd⟩, r.mono (Ext.newTup t n _).stab t⟩
theorem Ext.newLst {A : Hid} {H : Hp} (t : TupOk A H) {p : Addr} (n : H p = none) (xs : List V) : Ext A H (fun a => A a ∨ a = p) (upd H p (.lst xs)) := Ext.newOwn t n (fun _ z => by cases z) (fun _ _ z => by cases z)
theorem rv_lst {A : Hid} {H : Hp} (t : TupOk A H) {ds : List D} {vs : List V} (r : RepDs G A H ds vs) {p : Addr} (n : H p = none) : RvOk G H (fun a => A a ∨ a = p) (upd H p (.lst vs)) (.fresh (.lst ds)) (.ref p) :=
  ⟨p, rfl, n, .inr rfl, vs, upd_same, r.mono (Ext.newLst t n _).stab t⟩

def szOk (n : Nat) : Bool := decide (n ≤ 1000000)
theorem szOk.le {n : Nat} (h : szOk n = true) : n ≤ sizeLine := Nat.le_trans (of_decide_eq_true h) (by decide)
def cTup (a : AF) : EF := fun env => bd (a env) fun ds e => if szOk ds.length then some (.ok (.dat (.tup ds)) e) else none
def cLst (a : AF) : EF := fun env => bd (a env) fun ds e => if szOk ds.length then some (.ok (.fresh (.lst ds)) e) else none
theorem ev_tup {es : List Expr} {x1 : Nat} {pos : Pos} {a : AF} (h : PA X es (tEvA G XR W a)) : PE X (.Tuple es x1 pos) (tEv G XR W (cTup a)) := PE_imp (pe_tupF h) fun σ H Q ⟨A, env, R, p⟩ => by
  refine (evA_seq R p).imp fun xs H1 ⟨A1, e1, ds, R1, k1, F1, p1⟩ => ?_
  split at p1
  · rename_i hz
    refine ⟨by rw [← k1.length]; exact szOk.le hz, fun q ob hq hd => ?_⟩
    exact fin_rv (rv := .dat (.tup ds)) R1 (fun p q => F1.none q) p1 (Ext.newTup R1.tup hq _) (rv_tup R1.tup k1 hq hd)
  · exact p1.elim
theorem ev_lst {es : List Expr} {pos : Pos} {a : AF} (h : PA X es (tEvA G XR W a)) : PE X (.List es pos) (tEv G XR W (cLst a)) := PE_imp (pe_lst h) fun σ H Q ⟨A, env, R, p⟩ => by
  refine (evA_seq R p).imp fun xs H1 ⟨A1, e1, ds, R1, k1, F1, p1⟩ => ?_
  split at p1
  · rename_i hz
    refine ⟨by rw [← k1.length]; exact szOk.le hz, fun q hq => ?_⟩
    exact fin_rv (rv := .fresh (.lst ds)) R1 (fun p q => F1.none q) p1 (Ext.newLst R1.tup hq _) (rv_lst R1.tup k1 hq)
  · exact p1.elim

/-! ### tests -/
def cTest (f : EF) : TF := fun env => bd (f env) fun o e => match peek e o with
  | some (.bl b) => some (.ok b e)
  | _ => none
theorem test_of {f : EF} {σ : St} {H : Hp} {Q : Bool → Hp → Prop} (h : tEvT G XR W (cTest f) σ H Q) : tEv G XR W f σ H fun x H' => ∃ k, x = .bl k ∧ Q k H' := by
  obtain ⟨A, env, R, p⟩ := h
  refine (ev_seq R p).imp fun x H1 ⟨A1, e1, o1, R1, ok, F1, p1⟩ => ?_
  split at p1
  · rename_i b hb
    rcases peek_ok R1 ok hb with q | ⟨_, _, _, q⟩
    · unfold RepD at q
      exact ⟨b, q, p1 A1 H1 R1 (Fr.refl _ _ _)⟩
    · exact q.elim
  · exact p1.elim
theorem et_val {e : Expr} {f : EF} (h : PE X e (tEv G XR W f)) (he : ∀ whole, isTrue e X.env whole = (do let v ← whole; standAt e.pos; holding [v] (truthy v)) := by intro _; rfl) : PT X e (tEvT G XR W (cTest f)) :=
  PT_imp (pt_val h he) fun _ _ _ q => test_of q
theorem et_cmp {a b : Expr} {pos : Pos} {op : CmpOp} {r : R2} {F : D → D → Option RV} {f g : EF} (ho : OpR X (compareOp op) r) (hF : Op2 G r F) (ha : PE X a (tEv G XR W f)) (hb : PE X b (tEv G XR W g)) (hm : behindInMarks op b = false) :
    PT X (.Compare a [op] [b] pos) (tEvT G XR W (cTest (cBin F f g))) := PT_imp (pt_cmpR ho ha hb hm) fun σ H Q q => by
  have q1 := test_of q
  exact use2 hF q1
def tAndF (t u : TF) : TF := fun env => bd (t env) fun b e => if b = true then u e else some (.ok false e)
def tOrF (t u : TF) : TF := fun env => bd (t env) fun b e => if b = true then some (.ok true e) else u e
def tNotF (t : TF) : TF := fun env => bd (t env) fun b e => some (.ok (!b) e)
theorem ew_or1 {a : Expr} {pos : Pos} {t : TF} (h : PT X a (tEvT G XR W t)) : PW X (.BoolOp .Or [a] pos) (tEvT G XR W t) := pw_or1 h
theorem ew_or {a b : Expr} {rest : List Expr} {pos : Pos} {t u : TF} (ha : PT X a (tEvT G XR W t)) (hb : PW X (.BoolOp .Or (b :: rest) pos) (tEvT G XR W u)) : PW X (.BoolOp .Or (a :: b :: rest) pos) (tEvT G XR W (tOrF t u)) :=
  PW_imp (pw_or ha hb) fun σ H Q ⟨A, env, R, p⟩ => by
    refine (evT_seq R p).imp fun b H1 ⟨A1, e1, R1, F1, p1⟩ => ?_
    cases b with
    | false => exact ⟨A1, e1, R1, p1⟩
    | true => exact p1 A1 H1 R1 (Fr.refl _ _ _)
theorem et_not {a : Expr} {pos : Pos} {t : TF} (h : PT X a (tEvT G XR W t)) : PT X (.UnaryOp .Not a pos) (tEvT G XR W (tNotF t)) := PT_imp (pt_not h) fun σ H Q ⟨A, env, R, p⟩ => by
  refine (evT_seq R p).imp fun b H1 ⟨A1, e1, R1, F1, p1⟩ => ?_
  exact p1 A1 H1 R1 (Fr.refl _ _ _)
/-- .. as values -/
def cAndV (f g : EF) : EF := fun env => bd (f env) fun o e => match peek e o with
  | some (.bl true) => g e
  | some (.bl false) => some (.ok (.dat (.bl false)) e)
  | _ => none
def cOrV (f g : EF) : EF := fun env => bd (f env) fun o e => match peek e o with
  | some (.bl true) => some (.ok (.dat (.bl true)) e)
  | some (.bl false) => g e
  | _ => none
def cNotV (f : EF) : EF := fun env => bd (f env) fun o e => match peek e o with
  | some (.bl b) => some (.ok (.dat (.bl (!b))) e)
  | _ => none
theorem bl_of {A : Hid} {H : Hp} {b : Bool} {x : V} (h : RepT G A H (.bl b) x) : x = .bl b := by
  rcases h with q | ⟨_, _, _, q⟩
  · unfold RepD at q
    exact q
  · exact q.elim
def cIfE (t : TF) (f g : EF) : EF := fun env => bd (t env) fun b e => if b = true then f e else g e
end
end Tk
/-! Tk3: statements, loops, comprehensions. -/
namespace Tk
open PySem L2

inductive Fl where
  | next
  | brk
  | cont
  | ret (o : Out)
abbrev SF := Env → Option (Rs Fl)
def Keep (fx : List Nat) (σ σ' : St) : Prop := ∀ i ∈ fx, σ'[i]? = σ[i]?
theorem Keep.refl (fx : List Nat) (σ : St) : Keep fx σ σ := fun _ _ => rfl
theorem Keep.trans {fx : List Nat} {σ σ1 σ2 : St} (a : Keep fx σ σ1) (b : Keep fx σ1 σ2) : Keep fx σ σ2 := fun i h => (b i h).trans (a i h)

def PostS (G : Tb) (XR : XW) (W : WX) (fx : List Nat) (D : Ends) (σ : St) (A : Hid) (H : Hp) (env : Env) : Option (Rs Fl) → Prop
  | none => False
  | some (.ok .next e) => ∀ σ' A' H', Rep G A' σ' H' e → Keep fx σ σ' → Fr (Own σ env) A H (Own σ' e) A' H' → D.nx σ' H'
  | some (.ok .brk e) => ∀ σ' A' H', Rep G A' σ' H' e → Keep fx σ σ' → Fr (Own σ env) A H (Own σ' e) A' H' → D.bk σ' H'
  | some (.ok .cont e) => ∀ σ' A' H', Rep G A' σ' H' e → Keep fx σ σ' → Fr (Own σ env) A H (Own σ' e) A' H' → D.ct σ' H'
  | some (.ok (.ret o) e) => ∀ σ' A' H' v, Rep G A' σ' H' e → Keep fx σ σ' → Fr (Own σ env) A H (Own σ' e) A' H' → OutOk G H A' σ' H' e o v → D.rt v H'
  | some (.ex x e) => ∀ σ' A' H' c d, Rep G A' σ' H' e → Keep fx σ σ' → Fr (Own σ env) A H (Own σ' e) A' H' → XR G x c d A' H' → W c d σ' H'
/-- wishes of a statement that grow -/
structure Ends.Le (D D' : Ends) : Prop where
  nx : ∀ σ H, D.nx σ H → D'.nx σ H
  bk : ∀ σ H, D.bk σ H → D'.bk σ H
  ct : ∀ σ H, D.ct σ H → D'.ct σ H
  rt : ∀ v H, D.rt v H → D'.rt v H
theorem Ends.Le.refl (D : Ends) : Ends.Le D D := ⟨fun _ _ h => h, fun _ _ h => h, fun _ _ h => h, fun _ _ h => h⟩

section
variable {G : Tb} {XR : XW} {W : WX} {X : Cx} {fx : List Nat}

theorem PostS.imp {D D' : Ends} {σ σ1 : St} {A A1 : Hid} {H H1 : Hp} {env env1 : Env} (l : Ends.Le D D') (k : Keep fx σ σ1) (f : Fr (Own σ env) A H (Own σ1 env1) A1 H1) : ∀ {r : Option (Rs Fl)}, PostS G XR W fx D σ A H env r → PostS G XR W fx D' σ1 A1 H1 env1 r
  | none, q => q
  | some (.ok .next e), q => fun σ' A' H' R K F => l.nx _ _ (q σ' A' H' R (k.trans K) (f.trans F))
  | some (.ok .brk e), q => fun σ' A' H' R K F => l.bk _ _ (q σ' A' H' R (k.trans K) (f.trans F))
  | some (.ok .cont e), q => fun σ' A' H' R K F => l.ct _ _ (q σ' A' H' R (k.trans K) (f.trans F))
  | some (.ok (.ret o) e), q => fun σ' A' H' v R K F ok => l.rt _ _ (q σ' A' H' v R (k.trans K) (f.trans F) (ok.base fun p h => f.none h))
  | some (.ex x e), q => fun σ' A' H' c d R K F xr => q σ' A' H' c d R (k.trans K) (f.trans F) xr
theorem PostS.now {D : Ends} {σ : St} {A : Hid} {H : Hp} {env : Env} (R : Rep G A σ H env) (p : PostS G XR W fx D σ A H env (some (.ok .next env))) : D.nx σ H := p σ A H R (Keep.refl _ _) (Fr.refl _ _ _)

variable (G XR W fx) in
def tEx (g : SF) : TS := fun D σ H => ∃ A env, Rep G A σ H env ∧ PostS G XR W fx D σ A H env (g env)

theorem exU_seq {f : UF} {k : D → Env → Option (Rs Fl)} {D : Ends} {σ : St} {A : Hid} {H : Hp} {env : Env} (R : Rep G A σ H env) (p : PostS G XR W fx D σ A H env (bd (f env) k)) :
    tEvU G XR W f σ H (fun x H1 => ∃ A1 env1 d1, Rep G A1 σ H1 env1 ∧ RepD G A1 H1 d1 x ∧ Fr (Own σ env) A H (Own σ env1) A1 H1 ∧ PostS G XR W fx D σ A1 H1 env1 (k d1 env1)) := by
  refine ⟨A, env, R, ?_⟩
  cases hf : f env with
  | none =>
    rw [hf] at p
    exact p
  | some r =>
    rw [hf] at p
    cases r with
    | ok o e1 => exact fun A1 H1 R1 F1 v ov => ⟨A1, e1, o, R1, ov, F1, PostS.imp (Ends.Le.refl _) (Keep.refl _ _) F1 p⟩
    | ex x e1 => exact fun A1 H1 c d R1 F1 xr => p σ A1 H1 c d R1 (Keep.refl _ _) F1 xr
theorem exT_seq {f : TF} {k : Bool → Env → Option (Rs Fl)} {D : Ends} {σ : St} {A : Hid} {H : Hp} {env : Env} (R : Rep G A σ H env) (p : PostS G XR W fx D σ A H env (bd (f env) k)) :
    tEvT G XR W f σ H (fun b H1 => ∃ A1 env1, Rep G A1 σ H1 env1 ∧ Fr (Own σ env) A H (Own σ env1) A1 H1 ∧ PostS G XR W fx D σ A1 H1 env1 (k b env1)) := by
  refine ⟨A, env, R, ?_⟩
  cases hf : f env with
  | none =>
    rw [hf] at p
    exact p
  | some r =>
    rw [hf] at p
    cases r with
    | ok o e1 => exact fun A1 H1 R1 F1 => ⟨A1, e1, R1, F1, PostS.imp (Ends.Le.refl _) (Keep.refl _ _) F1 p⟩
    | ex x e1 => exact fun A1 H1 c d R1 F1 xr => p σ A1 H1 c d R1 (Keep.refl _ _) F1 xr

/-! ### blocks -/
def sNil : SF := fun env => some (.ok .next env)
def seqK (g2 : SF) (fl : Fl) (e : Env) : Option (Rs Fl) := match fl with
  | .next => g2 e
  | .brk => some (.ok .brk e)
  | .cont => some (.ok .cont e)
  | .ret o => some (.ok (.ret o) e)
def sSeq (g1 g2 : SF) : SF := fun env => bd (g1 env) (seqK g2)
theorem es_nil : PSs X [] (tEx G XR W fx sNil) := PSs_imp pss_nil fun D σ H ⟨A, env, R, p⟩ => p.now R
/-- from a longer run to its first part -/
theorem post_seq {g : SF} {k : Fl → Env → Option (Rs Fl)} {D D' : Ends} {σ : St} {A : Hid} {H : Hp} {env : Env} (hb : ∀ e, k .brk e = some (.ok .brk e) ∧ ∀ σ' H', D.bk σ' H' → D'.bk σ' H') (hc : ∀ e, k .cont e = some (.ok .cont e) ∧ ∀ σ' H', D.ct σ' H' → D'.ct σ' H')
    (hr : ∀ o e, k (.ret o) e = some (.ok (.ret o) e) ∧ ∀ v H', D.rt v H' → D'.rt v H')
    (hn : ∀ σ' A' H' e, Rep G A' σ' H' e → Keep fx σ σ' → Fr (Own σ env) A H (Own σ' e) A' H' → PostS G XR W fx D σ' A' H' e (k .next e) → D'.nx σ' H') (p : PostS G XR W fx D σ A H env (bd (g env) k)) : PostS G XR W fx D' σ A H env (g env) := by
  cases hg : g env with
  | none =>
    rw [hg] at p
    exact p
  | some r =>
    rw [hg] at p
    cases r with
    | ex x e => exact p
    | ok fl e =>
      rw [bd_ok] at p
      cases fl with
      | next => exact fun σ' A' H' R K F => hn σ' A' H' e R K F (PostS.imp (Ends.Le.refl _) K F p)
      | brk =>
        rw [(hb e).1] at p
        exact fun σ' A' H' R K F => (hb e).2 _ _ (p σ' A' H' R K F)
      | cont =>
        rw [(hc e).1] at p
        exact fun σ' A' H' R K F => (hc e).2 _ _ (p σ' A' H' R K F)
      | ret o =>
        rw [(hr o e).1] at p
        exact fun σ' A' H' v R K F ok => (hr o e).2 _ _ (p σ' A' H' v R K F ok)
theorem es_cons {st : Stmt} {rest : List Stmt} {g1 g2 : SF} (h1 : PS X st (tEx G XR W fx g1)) (h2 : PSs X rest (tEx G XR W fx g2)) : PSs X (st :: rest) (tEx G XR W fx (sSeq g1 g2)) := PSs_imp (pss_cons h1 h2) fun D σ H ⟨A, env, R, p⟩ => by
  refine ⟨A, env, R, post_seq (D := D) (k := seqK g2) (fun e => ⟨rfl, fun _ _ h => h⟩) (fun e => ⟨rfl, fun _ _ h => h⟩) (fun o e => ⟨rfl, fun _ _ h => h⟩) (fun σ' A' H' e R' K F q => ?_) p⟩
  exact ⟨A', e, R', q⟩
theorem es_one {st : Stmt} {g1 : SF} (h1 : PS X st (tEx G XR W fx g1)) : PSs X [st] (tEx G XR W fx g1) := pss_one h1

/-! ### small statements -/
def sExpr (f : EF) : SF := fun env => bd (f env) fun _ e => some (.ok .next e)
def sRet (f : EF) : SF := fun env => bd (f env) fun o e => some (.ok (.ret o) e)
theorem es_ret {e : Expr} {pos : Pos} {f : EF} (h : PE X e (tEv G XR W f)) : PS X (.Return (some e) pos) (tEx G XR W fx (sRet f)) := PS_imp (ps_ret h) fun D σ H ⟨A, env, R, p⟩ => by
  refine ⟨A, env, R, ?_⟩
  unfold sRet at p
  cases hf : f env with
  | none =>
    rw [hf] at p
    exact p
  | some r =>
    rw [hf] at p
    cases r with
    | ok o e1 => exact fun A1 H1 R1 F1 v ov => p σ A1 H1 v R1 (Keep.refl _ _) F1 ov
    | ex x e1 => exact fun A1 H1 c d R1 F1 xr => p σ A1 H1 c d R1 (Keep.refl _ _) F1 xr
def sRetN : SF := fun env => some (.ok (.ret (.dat .non)) env)
def sBrk : SF := fun env => some (.ok .brk env)
def sCont : SF := fun env => some (.ok .cont env)
def sIf (t : TF) (g1 g2 : SF) : SF := fun env => bd (t env) fun b e => if b = true then g1 e else g2 e
theorem es_if {c : Expr} {a b : List Stmt} {pos : Pos} {t : TF} {g1 g2 : SF} (hc : PT X c (tEvT G XR W t)) (ha : PSs X a (tEx G XR W fx g1)) (hb : PSs X b (tEx G XR W fx g2)) : PS X (.If c a b pos) (tEx G XR W fx (sIf t g1 g2)) := PS_imp (ps_if hc ha hb) fun D σ H ⟨A, env, R, p⟩ => by
  refine (exT_seq R p).imp fun b H1 ⟨A1, e1, R1, F1, p1⟩ => ?_
  cases b with
  | true => exact ⟨A1, e1, R1, p1⟩
  | false => exact ⟨A1, e1, R1, p1⟩

/-! ### stores -/
theorem Rep.setDat {σ : St} {A : Hid} {H : Hp} {env : Env} (R : Rep G A σ H env) {i : Nat} {d : D} {v : V} (hi : i < env.length) (h : RepD G A H d v) : Rep G A (σ.set i (some v)) H (env.set i (some (.dat d))) ∧ ∀ q, Own (σ.set i (some v)) (env.set i (some (.dat d))) q → Own σ env q := by
  have hs : i < σ.length := by
    rw [← R.len]
    exact hi
  have back : ∀ (j : Nat) (c : D), (env.set i (some (.dat d)))[j]? = some (some (Cell.own c)) → i ≠ j ∧ env[j]? = some (some (Cell.own c)) := fun j c k => by
    by_cases hj : i = j
    · subst hj
      rw [List.getElem?_set_self hi] at k
      cases k
    · rw [List.getElem?_set_ne hj] at k
      exact ⟨hj, k⟩
  refine ⟨⟨by rw [List.length_set, List.length_set]; exact R.len, R.tup, fun j c k => ?_, fun j1 j2 d1 d2 w k1 k2 k3 k4 => ?_⟩, fun q ⟨j, c, k1, k2⟩ => ?_⟩
  · by_cases hj : i = j
    · subst hj
      rw [List.getElem?_set_self hi] at k
      cases k
      exact ⟨v, List.getElem?_set_self hs, h⟩
    · rw [List.getElem?_set_ne hj] at k ⊢
      exact R.cell j c k
  · obtain ⟨n1, m1⟩ := back _ _ k1
    obtain ⟨n2, m2⟩ := back _ _ k2
    rw [List.getElem?_set_ne n1] at k3
    rw [List.getElem?_set_ne n2] at k4
    exact R.inj j1 j2 d1 d2 w m1 m2 k3 k4
  · obtain ⟨n1, m1⟩ := back _ _ k1
    rw [List.getElem?_set_ne n1] at k2
    exact ⟨j, c, m1, k2⟩
theorem Rep.setOwn {σ : St} {A : Hid} {H : Hp} {env : Env} (R : Rep G A σ H env) {i : Nat} {d : D} {p : Addr} (hi : i < env.length) (a : A p) (n : ¬ Own σ env p) (t : RepTop G A H d p) :
    Rep G A (σ.set i (some (.ref p))) H (env.set i (some (.own d))) ∧ ∀ q, Own (σ.set i (some (.ref p))) (env.set i (some (.own d))) q → Own σ env q ∨ q = p := by
  have hs : i < σ.length := by
    rw [← R.len]
    exact hi
  refine ⟨⟨by rw [List.length_set, List.length_set]; exact R.len, R.tup, fun j c k => ?_, fun j1 j2 d1 d2 w k1 k2 k3 k4 => ?_⟩, fun q ⟨j, c, k1, k2⟩ => ?_⟩
  · by_cases hj : i = j
    · subst hj
      rw [List.getElem?_set_self hi] at k
      cases k
      exact ⟨.ref p, List.getElem?_set_self hs, p, rfl, a, t⟩
    · rw [List.getElem?_set_ne hj] at k ⊢
      exact R.cell j c k
  · by_cases h1 : i = j1
    · subst h1
      rw [List.getElem?_set_self hs] at k3
      cases k3
      by_cases h2 : i = j2
      · exact h2
      · rw [List.getElem?_set_ne h2] at k2 k4
        exact absurd ⟨j2, d2, k2, k4⟩ n
    · rw [List.getElem?_set_ne h1] at k1 k3
      by_cases h2 : i = j2
      · subst h2
        rw [List.getElem?_set_self hs] at k4
        cases k4
        exact absurd ⟨j1, d1, k1, k3⟩ n
      · rw [List.getElem?_set_ne h2] at k2 k4
        exact R.inj j1 j2 d1 d2 w k1 k2 k3 k4
  · by_cases hj : i = j
    · subst hj
      rw [List.getElem?_set_self hs] at k2
      cases k2
      exact .inr rfl
    · rw [List.getElem?_set_ne hj] at k1 k2
      exact .inl ⟨j, c, k1, k2⟩
theorem Fr.less {O A O1 O2 A1 : Hid} {H H1 : Hp} (f : Fr O A H O1 A1 H1) (h : ∀ q, O2 q → O1 q ∨ H q = Option.none) : Fr O A H O2 A1 H1 := ⟨f.keep, fun p hp => by
  rcases h p hp with z | z
  · exact f.own p z
  · exact .inr z, f.dom⟩
theorem keep_set {σ : St} {i : Nat} {v : Option V} (h : i ∉ fx) : Keep fx σ (σ.set i v) := fun j hj => by
  rw [List.getElem?_set_ne]
  rintro rfl
  exact h hj

/-- name = value -/
def setK (fx : List Nat) (i : Nat) (o : Out) (e : Env) : Option (Rs Fl) :=
  if i ∈ fx ∨ e.length ≤ i then none else match o with
    | .dat d => some (.ok .next (e.set i (some (.dat d))))
    | .fresh d => some (.ok .next (e.set i (some (.own d))))
    | .slot j => match use e (.slot j) with
      | some (.ok d e2) => some (.ok .next (e2.set i (some (.dat d))))
      | _ => none
def sSet (fx : List Nat) (i : Nat) (f : EF) : SF := fun env => bd (f env) (setK fx i)
theorem use_len {e e2 : Env} {o : Out} {d : D} (h : use e o = some (.ok d e2)) : e2.length = e.length := by
  cases o with
  | dat _ => cases h; rfl
  | fresh _ => cases h; rfl
  | slot i =>
    unfold use at h
    simp only at h
    split at h
    · cases h; rfl
    · cases h
      rw [List.length_set]
    · cases h
theorem set_out {i : Nat} {D : Ends} {σ : St} {A0 A : Hid} {H0 H : Hp} {env0 e : Env} {o : Out} {x : V} (R : Rep G A σ H e) (F0 : Fr (Own σ env0) A0 H0 (Own σ e) A H) (ok : OutOk G H0 A σ H e o x) (p : PostS G XR W fx D σ A0 H0 env0 (setK fx i o e)) : D.nx (σ.set i (some x)) H := by
  unfold setK at p
  split at p
  · exact p.elim
  · rename_i hi
    have h1 : i ∉ fx := fun z => hi (.inl z)
    have h2 : i < e.length := Nat.lt_of_not_le fun z => hi (.inr z)
    cases o with
    | dat d =>
      obtain ⟨R', ow⟩ := R.setDat h2 ok
      exact p _ A H R' (keep_set h1) (F0.less fun q z => .inl (ow q z))
    | fresh d =>
      obtain ⟨q, e1, e2, a, n, t⟩ := ok
      subst e1
      obtain ⟨R', ow⟩ := R.setOwn h2 a n t
      refine p _ A H R' (keep_set h1) (F0.less fun r z => ?_)
      rcases ow r z with w | w
      · exact .inl w
      · rw [w]
        exact .inr e2
    | slot j =>
      simp only at p
      split at p
      · rename_i d e2 hu
        obtain ⟨A2, R2, F2, r2, _⟩ := use_ok R F0 ok hu
        have h3 : i < e2.length := by
          rw [use_len hu]
          exact h2
        obtain ⟨R', ow⟩ := R2.setDat h3 r2
        exact p _ A2 H R' (keep_set h1) (F2.less fun q z => .inl (ow q z))
      · exact p.elim
theorem es_set {i : Nat} {x : Str} {e : Expr} {f : EF} {pos pos' : Pos} (hN : X.N.Nodup) (hi : X.N[i]? = some x) (hx : Loc X.env.scope x) (he : PE X e (tEv G XR W f)) (hs : swapsWith e (some (.Name x pos')) pos.line X.env = pure false := by rfl)
    (hf : X.fn x = true ∨ X.env.scope.names.lookup x = some .local := by first | exact .inl rfl | exact .inr rfl | assumption) : PS X (.Assign [.Name x pos'] e pos) (tEx G XR W fx (sSet fx i f)) := PS_imp (ps_set hN hi hx he hs hf) fun D σ H ⟨A, env, R, p⟩ => by
  unfold sSet at p
  refine ⟨A, env, R, ?_⟩
  cases hf : f env with
  | none =>
    rw [hf] at p
    exact p
  | some r =>
    rw [hf] at p
    cases r with
    | ok o e1 => exact fun A1 H1 R1 F1 v ov => set_out R1 F1 ov p
    | ex x e1 => exact fun A1 H1 c d R1 F1 xr => p σ A1 H1 c d R1 (Keep.refl _ _) F1 xr

/-! ### targets -/
abbrev GF := D → Env → Option (Rs Unit)
abbrev GFs := List D → Env → Option (Rs Unit)
def PostG (G : Tb) (XR : XW) (W : WX) (fx : List Nat) (Q : St → Hp → Prop) (σ : St) (A : Hid) (H : Hp) (env : Env) : Option (Rs Unit) → Prop
  | none => False
  | some (.ok _ e) => ∀ σ' A' H', Rep G A' σ' H' e → Keep fx σ σ' → Fr (Own σ env) A H (Own σ' e) A' H' → Q σ' H'
  | some (.ex x e) => ∀ σ' A' H' c d, Rep G A' σ' H' e → Keep fx σ σ' → Fr (Own σ env) A H (Own σ' e) A' H' → XR G x c d A' H' → W c d σ' H'
theorem PostG.imp {Q Q' : St → Hp → Prop} {σ σ1 : St} {A A1 : Hid} {H H1 : Hp} {env env1 : Env} (l : ∀ σ H, Q σ H → Q' σ H) (k : Keep fx σ σ1) (f : Fr (Own σ env) A H (Own σ1 env1) A1 H1) : ∀ {r : Option (Rs Unit)}, PostG G XR W fx Q σ A H env r → PostG G XR W fx Q' σ1 A1 H1 env1 r
  | none, q => q
  | some (.ok _ e), q => fun σ' A' H' R K F => l _ _ (q σ' A' H' R (k.trans K) (f.trans F))
  | some (.ex x e), q => fun σ' A' H' c d R K F xr => q σ' A' H' c d R (k.trans K) (f.trans F) xr
variable (G XR W fx) in
def tEvG (g : GF) : TG := fun v σ H Q => ∃ A env d, Rep G A σ H env ∧ RepD G A H d v ∧ PostG G XR W fx Q σ A H env (g d env)
variable (G XR W fx) in
def tEvGs (g : GFs) : TGs := fun vs σ H Q => ∃ A env ds, Rep G A σ H env ∧ RepDs G A H ds vs ∧ PostG G XR W fx Q σ A H env (g ds env)
theorem PG_imp {X : Cx} {e : Expr} {t t' : TG} (h : PG X e t) (i : ∀ v σ H Q, t' v σ H Q → t v σ H Q) : PG X e t' := ⟨fun pins s σ H v u Q I r q => h.run pins s σ H v u Q I r (i v σ H Q q)⟩
theorem PGs_imp {X : Cx} {e : List Expr} {t t' : TGs} (h : PGs X e t) (i : ∀ v σ H Q, t' v σ H Q → t v σ H Q) : PGs X e t' := ⟨fun pins s σ H v u Q I r q => h.run pins s σ H v u Q I r (i v σ H Q q)⟩
def gNm (fx : List Nat) (i : Nat) : GF := fun d env => if i ∈ fx ∨ env.length ≤ i then none else some (.ok () (env.set i (some (.dat d))))
theorem eg_name {i : Nat} {x : Str} {pos : Pos} (h : PG X (.Name x pos) (gName i)) : PG X (.Name x pos) (tEvG G XR W fx (gNm fx i)) := PG_imp h fun v σ H Q ⟨A, env, d, R, r, p⟩ => by
  unfold gNm at p
  split at p
  · exact p.elim
  · rename_i hi
    have h1 : i ∉ fx := fun z => hi (.inl z)
    have h2 : i < env.length := Nat.lt_of_not_le fun z => hi (.inr z)
    obtain ⟨R', ow⟩ := R.setDat h2 r
    exact p _ A H R' (keep_set h1) ((Fr.refl _ _ _).less fun q z => .inl (ow q z))
def gsNil : GFs := fun ds env => match ds with
  | [] => some (.ok () env)
  | _ => none
def gsCons (g : GF) (gs : GFs) : GFs := fun ds env => match ds with
  | d :: r => bd (g d env) fun _ e => gs r e
  | [] => none
theorem egs_nil : PGs X [] (tEvGs G XR W fx gsNil) := PGs_imp pgs_nil fun vs σ H Q ⟨A, env, ds, R, r, p⟩ => by
  cases ds with
  | nil => exact ⟨r.inv0, p σ A H R (Keep.refl _ _) (Fr.refl _ _ _)⟩
  | cons d ds => exact p.elim
theorem egs_cons {e : Expr} {es : List Expr} {g : GF} {gs : GFs} (h1 : PG X e (tEvG G XR W fx g)) (h2 : PGs X es (tEvGs G XR W fx gs)) (hs : (assignEach (e :: es) X.env).map (·.2) = assign e X.env :: (assignEach es X.env).map (·.2) := by rfl) :
    PGs X (e :: es) (tEvGs G XR W fx (gsCons g gs)) := PGs_imp (pgs_cons h1 h2 hs) fun vs σ H Q ⟨A, env, ds, R, r, p⟩ => by
  cases ds with
  | nil => exact p.elim
  | cons d ds =>
    obtain ⟨v, vr, rfl, r1, r2⟩ := r.inv
    refine ⟨v, vr, rfl, A, env, d, R, r1, ?_⟩
    unfold gsCons at p
    simp only at p
    cases hg : g d env with
    | none =>
      rw [hg] at p
      exact p
    | some q =>
      rw [hg] at p
      cases q with
      | ok u e1 => exact fun σ' A' H' R' K F => ⟨A', e1, ds, R', RepDs.mono (F.stab fun p q => R.own_hid q) R.tup _ _ r2, PostG.imp (fun _ _ h => h) K F p⟩
      | ex x e1 => exact p
def gTp (n : Nat) (gs : GFs) : GF := fun d env => match d with
  | .tup ds => if ds.length = n then gs ds env else none
  | _ => none
theorem eg_tup {es : List Expr} {k : Nat} {pos : Pos} {gs : GFs} {n : Nat} (hc : X.calm = true) (hk : X.K = G.K) (h : PGs X es (tEvGs G XR W fx gs)) (hn : (assignEach es X.env).length = n := by rfl) (hst : (assignEach es X.env).findIdx? (·.1) = none := by rfl) :
    PG X (.Tuple es k pos) (tEvG G XR W fx (gTp n gs)) := PG_imp (pg_tup hc h hn hst) fun v σ H Q ⟨A, env, d, R, r, p⟩ => by
  cases d with
  | tup ds =>
    unfold RepD at r
    obtain ⟨a, vs, e, q, r⟩ := r
    unfold gTp at p
    simp only at p
    split at p
    · rename_i hl
      rw [← hk] at q
      exact ⟨a, vs, e, q.t, by rw [← r.length]; exact hl, A, env, ds, R, r, p⟩
    · exact p.elim
  | _ => exact p.elim
/-- target = value -/
def sAsg (f : EF) (g : GF) : SF := fun env => bd (cUse f env) fun d e => bd (g d e) fun _ e2 => some (.ok .next e2)
theorem asg_post {D : Ends} {σ : St} {A : Hid} {H : Hp} {env : Env} {r : Option (Rs Unit)} (p : PostS G XR W fx D σ A H env (bd r fun _ e2 => some (.ok .next e2))) : PostG G XR W fx D.nx σ A H env r := by
  cases r with
  | none => exact p
  | some q =>
    cases q with
    | ok u e => exact p
    | ex x e => exact p
theorem es_asg {tg e : Expr} {pos : Pos} {f : EF} {g : GF} (he : PE X e (tEv G XR W f)) (hg : PG X tg (tEvG G XR W fx g)) (hs : swapsWithSole [tg] e pos.line X.env = pure false := by rfl) (hw : swappedStores [tg] e X.env = pure none := by rfl)
    (h1 : (assignEach [tg] X.env).map (·.2) = [assign tg X.env] := by rfl) : PS X (.Assign [tg] e pos) (tEx G XR W fx (sAsg f g)) := PS_imp (ps_asg (ev_use he) hg hs hw h1) fun D σ H ⟨A, env, R, p⟩ => by
  refine (exU_seq R p).imp fun x H1 ⟨A1, e1, d1, R1, r1, F1, p1⟩ => ?_
  exact ⟨A1, e1, d1, R1, r1, asg_post p1⟩

/-! ### while -/
def forK (k : Env → Option (Rs Fl)) (fl : Fl) (e2 : Env) : Option (Rs Fl) := match fl with
    | .next => k e2
    | .cont => k e2
    | .brk => some (.ok .next e2)
    | .ret o => some (.ok (.ret o) e2)
def whileG (t : TF) (g : SF) : Nat → SF
  | 0 => fun _ => none
  | n + 1 => fun env => bd (t env) fun b e => if b = true then bd (g e) (forK (whileG t g n)) else some (.ok .next e)
theorem loop_post {g : SF} {k : Env → Option (Rs Fl)} {D : Ends} {N : St → Hp → Prop} {σ : St} {A : Hid} {H : Hp} {env : Env} (hN : ∀ σ' A' H' e, Rep G A' σ' H' e → Keep fx σ σ' → Fr (Own σ env) A H (Own σ' e) A' H' → PostS G XR W fx D σ' A' H' e (k e) → N σ' H')
    (p : PostS G XR W fx D σ A H env (bd (g env) (forK k))) : PostS G XR W fx { D with nx := N, ct := N, bk := D.nx } σ A H env (g env) := by
  cases hg : g env with
  | none =>
    rw [hg] at p
    exact p
  | some r =>
    rw [hg] at p
    cases r with
    | ex x e => exact p
    | ok fl e =>
      rw [bd_ok] at p
      cases fl with
      | next => exact fun σ' A' H' R K F => hN σ' A' H' e R K F (PostS.imp (Ends.Le.refl _) K F p)
      | brk => exact p
      | cont => exact fun σ' A' H' R K F => hN σ' A' H' e R K F (PostS.imp (Ends.Le.refl _) K F p)
      | ret o => exact p
/-! ### what is walked -/
def ItOk (G : Tb) (J : It) (A : Hid) (H : Hp) (ds : List D) : Prop := ∀ A2 H2, TupOk A2 H2 → Stab A H A2 H2 → (∀ (i : Nat) d, ds[i]? = some d → J.go i H2 ∧ ∀ x H3, J.yld i H2 x H3 → Ext A2 H2 A2 H3 ∧ RepD G A2 H3 d x) ∧ J.stop ds.length H2
variable (G XR W) in
def tEvI (f : AF) : TI := fun σ H R => ∃ A env, Rep G A σ H env ∧ Post G XR W σ A H env (fun ds _ A' H' => ∀ J, ItOk G J A' H' ds → R J H') (f env)
theorem PI_imp {X : Cx} {tg e : Expr} {t t' : TI} (h : PI X tg e t) (i : ∀ σ H Q, t' σ H Q → t σ H Q) : PI X tg e t' := ⟨fun pins s σ H Q I q => h.run pins s σ H Q I (i σ H Q q)⟩
theorem PI_or {X : Cx} {tg e : Expr} {t u : TI} (h : PI X tg e t) (k : PI X tg e u) : PI X tg e (fun σ H R => t σ H R ∨ u σ H R) := ⟨fun pins s σ H Q I q => by
  rcases q with q | q
  · exact h.run pins s σ H Q I q
  · exact k.run pins s σ H Q I q⟩

def signs (x : Str) : List D := x.cps.toList.map fun c => .str ⟨#[c]⟩
/-- a list, a tuple, a text -/
def iter1 : D → Option (List D)
  | .lst ds => some ds
  | .tup ds => some ds
  | .str x => some (signs x)
  | _ => none
def iIt (f : EF) : AF := fun env => bd (cUse f env) fun d e => match iter1 d with
  | some ds => some (.ok ds e)
  | none => none
def intsFrom (lo : Int) (n : Nat) : List D := (List.range n).map fun (i : Nat) => D.int (lo + (i : Int))
theorem it_range {A : Hid} {H : Hp} {lo : Int} {n : Nat} : ItOk G (Itr lo n) A H (intsFrom lo n) := fun A2 H2 t2 s => by
  refine ⟨fun i d e => ?_, ?_⟩
  · unfold intsFrom at e
    rw [List.getElem?_map] at e
    by_cases hi : i < n
    · rw [List.getElem?_range hi] at e
      cases e
      refine ⟨hi, fun v H3 y => ?_⟩
      obtain ⟨e2, e4⟩ := y
      subst e2
      refine ⟨Ext.refl t2, ?_⟩
      unfold RepD
      exact e4
    · rw [List.getElem?_eq_none (by simpa using hi)] at e
      cases e
  · show n ≤ (intsFrom lo n).length
    unfold intsFrom
    simp
def small62 (i : Int) : Bool := decide (i.natAbs < 2 ^ 62)
theorem small62.ok {i : Int} (h : small62 i = true) : -(2 ^ 62) ≤ i ∧ i < 2 ^ 62 := by
  unfold small62 at h
  have h := of_decide_eq_true h
  omega
def iRg1 (a : AF) : AF := fun env => bd (a env) fun ds e => match ds with
  | [.int j] => if small62 j = true then some (.ok (intsFrom 0 j.toNat) e) else none
  | _ => none
def iRg2 (a : AF) : AF := fun env => bd (a env) fun ds e => match ds with
  | [.int i, .int j] => if small62 i = true ∧ small62 j = true then some (.ok (intsFrom i (j - i).toNat) e) else none
  | _ => none
theorem int_of {A : Hid} {H : Hp} {i : Int} {x : V} (h : RepD G A H (.int i) x) : x = .int i := by
  unfold RepD at h
  exact h
theorem ei_range1 {tg a : Expr} {p pos : Pos} {f : AF} (hg : Gl X "range") (hm : X.mg "range" = none) (ha : PA X [a] (tEvA G XR W f)) (hs : starEach [a] X.env = [(false, eval a X.env)] := by rfl) : PI X tg (.Call (.Name "range" p) [a] [] pos) (tEvI G XR W (iRg1 f)) :=
  PI_imp (pi_range1 hg hm ha hs) fun σ H Rr ⟨A, env, R, p⟩ => by
    refine (evA_seq R p).imp fun xs H1 ⟨A1, e1, ds, R1, k1, F1, p1⟩ => ?_
    split at p1
    · rename_i j
      split at p1
      · rename_i hz
        obtain ⟨v, r, rfl, h1, h2⟩ := k1.inv
        obtain rfl := h2.inv0
        exact ⟨j, by rw [int_of h1], (small62.ok hz).1, (small62.ok hz).2, p1 A1 H1 R1 (Fr.refl _ _ _) _ it_range⟩
      · exact p1.elim
    · exact p1.elim
/-! ### for -/
def forG (g : GF) (b : SF) : List D → SF
  | [] => fun env => some (.ok .next env)
  | d :: ds => fun env => bd (g d env) fun _ e => bd (b e) (forK (forG g b ds))
def sFor (it : AF) (g : GF) (b : SF) : SF := fun env => bd (it env) fun ds e => forG g b ds e
theorem exI_seq {f : AF} {k : List D → Env → Option (Rs Fl)} {D : Ends} {σ : St} {A : Hid} {H : Hp} {env : Env} (R : Rep G A σ H env) (p : PostS G XR W fx D σ A H env (bd (f env) k)) :
    tEvI G XR W f σ H (fun J H1 => ∃ A1 env1 ds, Rep G A1 σ H1 env1 ∧ ItOk G J A1 H1 ds ∧ Fr (Own σ env) A H (Own σ env1) A1 H1 ∧ PostS G XR W fx D σ A1 H1 env1 (k ds env1)) := by
  refine ⟨A, env, R, ?_⟩
  cases hf : f env with
  | none =>
    rw [hf] at p
    exact p
  | some r =>
    rw [hf] at p
    cases r with
    | ok o e1 => exact fun A1 H1 R1 F1 J ij => ⟨A1, e1, o, R1, ij, F1, PostS.imp (Ends.Le.refl _) (Keep.refl _ _) F1 p⟩
    | ex x e1 => exact fun A1 H1 c d R1 F1 xr => p σ A1 H1 c d R1 (Keep.refl _ _) F1 xr
theorem tEvI.imp {f : AF} {σ : St} {H : Hp} {Q Q' : It → Hp → Prop} (h : tEvI G XR W f σ H Q) (i : ∀ v H', Q v H' → Q' v H') : tEvI G XR W f σ H Q' := by
  obtain ⟨A, env, R, p⟩ := h
  exact ⟨A, env, R, Post.imp (Fr.refl _ _ _) (fun _ _ _ _ _ q v o => i _ _ (q v o)) p⟩
/-- the target, then the rest -/
theorem postG_of {r : Option (Rs Unit)} {k : Env → Option (Rs Fl)} {D : Ends} {Q : St → Hp → Prop} {σ : St} {A : Hid} {H : Hp} {env : Env} (hN : ∀ σ' A' H' e, Rep G A' σ' H' e → Keep fx σ σ' → Fr (Own σ env) A H (Own σ' e) A' H' → PostS G XR W fx D σ' A' H' e (k e) → Q σ' H')
    (p : PostS G XR W fx D σ A H env (bd r fun _ e => k e)) : PostG G XR W fx Q σ A H env r := by
  cases r with
  | none => exact p
  | some q =>
    cases q with
    | ok u e => exact fun σ' A' H' R K F => hN σ' A' H' e R K F (PostS.imp (Ends.Le.refl _) K F p)
    | ex x e => exact p
theorem es_for {tg iter : Expr} {body : List Stmt} {pos : Pos} {it : AF} {g : GF} {b : SF} (hp : PassesOwn (model X.prog X.w) X.A X.env X.xe) (hc : X.calm = true) (hi : PI X tg iter (tEvI G XR W it)) (hg : PG X tg (tEvG G XR W fx g)) (hb : PSs X body (tEx G XR W fx b))
    (hs : ∀ x, foldedSetIterable iter X.env x = pure x := by intro _; rfl) : PS X (.For tg iter body [] pos) (tEx G XR W fx (sFor it g b)) := PS_imp (ps_for hp hc hi hg hb hs) fun D σ H ⟨A, env, R, p⟩ => by
  refine (exI_seq R p).imp fun J H1 ⟨A1, e1, ds, R1, ij, F1, p1⟩ => ?_
  refine ⟨fun i m σ H => i ≤ ds.length ∧ m = ds.length - i ∧ ∃ A env, Rep G A σ H env ∧ Stab A1 H1 A H ∧ PostS G XR W fx D σ A H env (forG g b (ds.drop i) env), ⟨_, Nat.zero_le _, rfl, A1, e1, R1, Stab.refl _ _, p1⟩, ?_⟩
  rintro i m σ2 H2 ⟨hi, rfl, A2, e2, R2, s2, p2⟩
  obtain ⟨turn, stop⟩ := ij A2 H2 R2.tup s2
  by_cases hl : i < ds.length
  · have ed : ds.drop i = ds[i] :: ds.drop (i + 1) := List.drop_eq_getElem_cons hl
    rw [ed] at p2
    obtain ⟨go, yl⟩ := turn i ds[i] (List.getElem?_eq_getElem hl)
    refine .inr ⟨go, fun σ' H' => ∃ A env, Rep G A σ' H' env ∧ Stab A1 H1 A H' ∧ PostS G XR W fx D σ' A H' env (forG g b (ds.drop (i + 1)) env), fun σ' H' ⟨A', e', R', s', p'⟩ => ⟨ds.length - (i + 1), by omega, hl, rfl, A', e', R', s', p'⟩, fun x H3 y => ?_⟩
    obtain ⟨ex, rd⟩ := yl x H3 y
    have R3 := ex.rep R2
    have p3 : PostS G XR W fx D σ2 A2 H3 e2 (bd (g ds[i] e2) fun _ e => bd (b e) (forK (forG g b (ds.drop (i + 1))))) := PostS.imp (Ends.Le.refl _) (Keep.refl _ _) (ex.fr _) p2
    refine ⟨A2, e2, ds[i], R3, rd, postG_of (fun σ4 A4 H4 e4 R4 K4 F4 p4 => ?_) p3⟩
    have s4 : Stab A1 H1 A4 H4 := (s2.trans ex.stab).trans (F4.stab fun p q => R3.own_hid q)
    exact ⟨A4, e4, R4, loop_post (k := forG g b (ds.drop (i + 1))) (fun σ5 A5 H5 e5 R5 K5 F5 p5 => ⟨A5, e5, R5, s4.trans (F5.stab fun p q => R4.own_hid q), p5⟩) p4⟩
  · have hn : i = ds.length := by omega
    subst hn
    rw [List.drop_length] at p2
    exact .inl ⟨stop, p2.now R2⟩
end
end Tk
/-! Tk4: defs and their calls. -/
namespace Tk
open PySem PySem.Spec PyProof.Rows L2

/-- a def keeps a promise wherever no repr is under way -/
structure FnG (P : Program) (w : World) (K : PySem.W.Frag) (mg : Str → Option Value) (base : Heap) (k : Nat) (f : Addr) (fd : FuncData) (ps : List Str) (sp : Sp) : Prop where
  len : ∀ vs H Q E, sp vs H Q E → vs.length = ps.length
  run : ∀ (A : Around) (outer : List PySem.Env) (s : Shared) (H : Hp) (args : Args) (us : List Value) (vs : List V) (Q : VK) (E : XK), Room k A → A.guards = some [] → Env0 P w K mg base A outer s H → BindsTo s fd args (ps.zip us) → Vals vs us → sp vs H Q E →
    codeAny (model P w) A (.call (.ref f) args) (CR (L2.CX P w) outer P w H s Q E) s

section
variable {P : Program} {w : World} {K : PySem.W.Frag} {mg : Str → Option Value} {base : Heap}
theorem FnG.mono {j k : Nat} {f : Addr} {fd : FuncData} {ps : List Str} {sp : Sp} (F : FnG P w K mg base j f fd ps sp) (h : j ≤ k) : FnG P w K mg base k f fd ps sp :=
  ⟨F.len, fun A outer s H args us vs Q E hr hg => F.run A outer s H args us vs Q E (hr.mono h) hg⟩

/-- a def by its body -/
theorem fng_of {x qual : Str} {st : Stmt} {f : Addr} {fd : FuncData} {N ps : List Str} {k : Nat} {sp : Sp} (F : Fun K x qual st f fd) (S : FnScope N ps (defScope st)) (len : ∀ vs H Q E, sp vs H Q E → vs.length = ps.length)
    (hbody : ∀ (cdv : Value) (A : Around) (outer : List PySem.Env) (s : Shared) (H : Hp) (vs : List V) (Q : VK) (E : XK), Room k (A.deeper (envOfC qual (defScope st) s.heap.objs.size f cdv)) → A.guards = some [] → sp vs H Q E →
      ∃ t, PSs (cxOf (L2.CX P w) P w K mg base N qual (defScope st) f cdv A outer s H E) (defBody st) t ∧ t { nx := fun _ H' => Q .non H', rt := Q } (L2.start N vs) H) : FnG P w K mg base (k + 1) f fd ps sp := by
  obtain ⟨oc, od, kV, doc, pm, an, cdv, ct, osl, rfl, lk, hcd⟩ := F.ex
  refine ⟨len, fun A outer s H args us vs Q E room hg env0 bind rel hsp => ?_⟩
  have hl := len _ _ _ _ hsp
  have inK : K.In s.heap := env0.mod.kin.keeps fun b o e => (env0.bs b o e).1
  have noLim : s.heap.NoLimit := env0.mod.nolimit.keeps fun b o e => (env0.bs b o e).1
  have kinds : ∀ y ∈ ps.zip us, (defScope st).names.lookup y.1 = some .local ∨ ((defScope st).names.lookup y.1 = some .cell ∧ ((cellsFrom (s.heap.objs.size + 1) (defScope st).names []).lookup y.1).isSome = true) := by
    rintro ⟨n, v⟩ hy
    rcases S.par n (List.of_mem_zip hy).1 with q | q
    · exact .inl q
    · exact .inr ⟨q, PySem.W.cellsFrom_some _ _ _ (.inl q)⟩
  refine codeAny_call_function room.depth (inK _ _ lk) rfl S.co S.gen rfl (PySem.W.codeRec_of inK hcd) (bind _ _ _ _ ?_)
  refine wpAny_newFunctionEnv_cells S.kind kinds fun env he s1 entry => ?_
  subst he
  refine ⟨noLim.keeps entry.toInCall.keep, codeAny_func ?_⟩
  obtain ⟨t, ht, hq⟩ := hbody cdv A outer s H vs Q E (room.deeper _) hg hsp
  have I : Inv (cxOf (L2.CX P w) P w K mg base N qual (defScope st) f cdv A outer s H E) [] (L2.start N vs) H s1 := inv_start S room.hd env0 hl rel entry
  refine wpAny_mono (ht.run [] s1 (L2.start N vs) H _ I hq) (fun fl s' hs => ?_) fun e s' hs => hs
  cases fl with
  | ret u =>
    obtain ⟨v, σ', H', J, rv, q⟩ := hs
    exact ⟨v, H', J.os, J.bare, J.base, J.hok, rv, q⟩
  | next =>
    obtain ⟨σ', H', J, q⟩ := hs
    exact ⟨V.non, H', J.os, J.bare, J.base, J.hok, rfl, q⟩
  | brk =>
    obtain ⟨_, _, _, q⟩ := hs
    exact q.elim
  | cont =>
    obtain ⟨_, _, _, q⟩ := hs
    exact q.elim
end

/-! ### the call of such a def -/
section
variable {X : Cx} {k : Nat} {f : Addr} {fd : FuncData} {ps ks : List Str} {sp : Sp} {W : WX} {x : Str} {p pos : Pos} {e : Expr} {es : List Expr} {kws : List Keyword} {t tk : TA}
def tCallG (sp : Sp) (W : WX) (t : TA) : TE := fun σ H Q => t σ H fun vs H1 => sp vs H1 Q fun c d H' => W c d σ H'
def tCallGK (sp : Sp) (gV : List V → List V → List V) (W : WX) (t tk : TA) : TE := fun σ H Q => t σ H fun vs H1 => tk σ H1 fun zs H2 => sp (gV vs zs) H2 Q fun c d H' => W c d σ H'
theorem run_g {pins : List (Addr × Obj)} {σ : L2.St} {H : Hp} {s : Shared} {Q : VK} {us : List Value} {kw : List (Str × Value)} {as : List Value} {vs : List V} (F : FnG X.prog X.w X.K X.mg X.base k f fd ps sp) (hr : Room k X.A) (hg : X.A.guards = some []) (tk : Takes X W) (I : Inv X pins σ H s)
    (hb : BindsTo s fd ⟨us, kw⟩ (ps.zip as)) (r : Vals vs as) (h : sp vs H Q fun c d H' => W c d σ H') : wpAny (model X.prog X.w) X.A (call (.ref f) us kw) (EP X pins σ Q) X.xe s := by
  refine wpAny_call (codeAny_mono (F.run X.A X.stack s H ⟨us, kw⟩ as vs Q _ hr hg I.env0 hb r h) fun r s' hq => ?_)
  cases r with
  | error e => exact tk e s' (XE.of_call I (fun _ _ _ z => z) hq)
  | ok fl =>
    cases fl with
    | ret u => exact I.after hq
    | next => exact hq.elim
    | brk => exact hq.elim
    | cont => exact hq.elim
theorem pe_callG (F : FnG X.prog X.w X.K X.mg X.base k f fd ps sp) (hr : Room k X.A) (hgu : X.A.guards = some []) (tk : Takes X W) (hg : Gl X x) (hm : X.mg x = some (.ref f)) (hk : PySem.W.keepIn X.K (.ref f) = true) (hb : Binds X.K fd ps [])
    (ha : PA X (e :: es) t) (hdb : (x == ("__debug__" : Str)) = false := by decide) (he : starEach (e :: es) X.env = (false, eval e X.env) :: starEach es X.env := by rfl) (hpl : (backTo pos (starEach es X.env)).any (·.1) = false := by rfl) :
    PE X (.Call (.Name x p) (e :: es) [] pos) (tCallG sp W t) := by
  refine ⟨fun pins s σ H Q I h => ?_⟩
  refine wpAny_Call_Name_kw (ld_glob I hg hm (PySem.W.callWith_K (h₀ := X.base) I.ok.mod.kin hk (thn (ha.run pos pins s σ H _ I h) fun us s1 ⟨vs, H1, I1, r, q⟩ => ⟨I1.kIn, ?_⟩) he hpl) hdb)
  have hl : (us ++ []).length = ps.length := by
    rw [List.append_nil, ← r.length]
    exact F.len _ _ _ _ q
  have hb1 := hb s1 us I1.kIn hl
  rw [List.append_nil] at hb1
  exact run_g F hr hgu tk I1 hb1 r q
end

/-! ### promises over data -/
inductive RR where
  | ok (r : RV)
  | ex (x : Exc)
inductive RM where
  | ok (r : RV) (d : D)
  | ex (x : Exc) (d : D)
structure ExtBut (p : Addr) (A : Hid) (H : Hp) (A' : Hid) (H' : Hp) : Prop where
  same : ∀ a o, H a = some o → a ≠ p → H' a = some o ∧ (A' a ↔ A a)
  tup : TupOk A' H'
  here : A' p
def PostP (G : Tb) (XR : XW) (A : Hid) (H : Hp) (Q : VK) (E : XK) : Option RR → Prop
  | none => False
  | some (.ok rv) => ∀ v A' H', Ext A H A' H' → RvOk G H A' H' rv v → Q v H'
  | some (.ex x) => ∀ c d A' H', Ext A H A' H' → XR G x c d A' H' → E c d H'
def PostM (G : Tb) (XR : XW) (p : Addr) (A : Hid) (H : Hp) (Q : VK) (E : XK) : Option RM → Prop
  | none => False
  | some (.ok rv d) => ∀ v A' H', ExtBut p A H A' H' → RepTop G A' H' d p → RvOk G H A' H' rv v → Q v H'
  | some (.ex x d) => ∀ c dx A' H', ExtBut p A H A' H' → RepTop G A' H' d p → XR G x c dx A' H' → E c dx H'
/-- a def that changes nothing | one that changes its first argument -/
def spP (G : Tb) (XR : XW) (n : Nat) (Φ : List D → Option RR) : Sp := fun vs H Q E => ∃ A ds, vs.length = n ∧ TupOk A H ∧ RepDs G A H ds vs ∧ PostP G XR A H Q E (Φ ds)
def spM (G : Tb) (XR : XW) (n : Nat) (Φ : D → List D → Option RM) : Sp := fun vs H Q E => ∃ A p vr d ds, vs = .ref p :: vr ∧ vs.length = n ∧ TupOk A H ∧ A p ∧ RepTop G A H d p ∧ RepDs G A H ds vr ∧ PostM G XR p A H Q E (Φ d ds)

/-! ### a def's run as a function of data -/
def startE (n : Nat) (ds : List D) : Env := ds.map (fun d => some (.dat d)) ++ List.replicate (n - ds.length) none
def startM (n : Nat) (d : D) (ds : List D) : Env := some (.own d) :: (ds.map (fun d => some (.dat d)) ++ List.replicate (n - (ds.length + 1)) none)
def retOf (e : Env) : Out → Option RV
  | .dat d => some (.dat d)
  | .fresh d => some (.fresh d)
  | .slot i => match e[i]? with
    | some (some (.dat d)) => some (.dat d)
    | some (some (.own d)) => some (.fresh d)
    | _ => none
def runP (g : SF) (n : Nat) (ds : List D) : Option RR := match g (startE n ds) with
  | some (.ok .next _) => some (.ok (.dat .non))
  | some (.ok (.ret o) e) => (retOf e o).map .ok
  | some (.ex x _) => some (.ex x)
  | _ => none
def own0 (e : Env) : Option D := match (e[0]? : Option (Option Cell)) with
  | some (some (.own d)) => some d
  | _ => none
def not0 : Out → Bool
  | .slot 0 => false
  | _ => true
def runM (g : SF) (n : Nat) (d : D) (ds : List D) : Option RM := match g (startM n d ds) with
  | some (.ok .next e) => (own0 e).map fun d' => .ok (.dat .non) d'
  | some (.ok (.ret o) e) => match own0 e, retOf e o with
    | some d', some rv => if not0 o = true then some (.ok rv d') else none
    | _, _ => none
  | some (.ex x e) => (own0 e).map fun d' => .ex x d'
  | _ => none

section
variable {G : Tb} {XR : XW}
theorem startE_get {n : Nat} {ds : List D} {i : Nat} {c : Cell} (h : (startE n ds)[i]? = some (some c)) : ∃ d, c = .dat d ∧ ds[i]? = some d := by
  unfold startE at h
  by_cases hi : i < ds.length
  · rw [List.getElem?_append_left (by simpa using hi), List.getElem?_map, List.getElem?_eq_getElem hi] at h
    cases h
    exact ⟨_, rfl, List.getElem?_eq_getElem hi⟩
  · rw [List.getElem?_append_right (by simpa using hi), List.getElem?_replicate] at h
    split at h <;> cases h
theorem start_get {N : List Str} {vs : List V} {i : Nat} {v : V} (h : vs[i]? = some v) : (L2.start N vs)[i]? = some (some v) := by
  unfold L2.start
  have hi := (List.getElem?_eq_some_iff.mp h).1
  rw [List.getElem?_append_left (by simpa using hi), List.getElem?_map, h]
  rfl
theorem rep_startE {A : Hid} {H : Hp} {N : List Str} {ds : List D} {vs : List V} (t : TupOk A H) (r : RepDs G A H ds vs) : Rep G A (L2.start N vs) H (startE N.length ds) ∧ ∀ q, ¬ Own (L2.start N vs) (startE N.length ds) q := by
  have no : ∀ (i : Nat) d, (startE N.length ds)[i]? ≠ some (some (Cell.own d)) := fun i d h => by
    obtain ⟨d', e, _⟩ := startE_get h
    cases e
  refine ⟨⟨?_, t, fun i c h => ?_, fun i j d e v h => absurd h (no i d)⟩, fun q ⟨i, d, h, _⟩ => no i d h⟩
  · unfold startE L2.start
    simp only [List.length_append, List.length_map, List.length_replicate, r.length]
  · obtain ⟨d, rfl, e⟩ := startE_get h
    obtain ⟨v, e1, k⟩ := r.get e
    exact ⟨v, start_get e1, k⟩
theorem startM_get {n : Nat} {d0 : D} {ds : List D} {i : Nat} {c : Cell} (h : (startM n d0 ds)[i]? = some (some c)) : (i = 0 ∧ c = .own d0) ∨ ∃ j d, i = j + 1 ∧ c = .dat d ∧ ds[j]? = some d := by
  cases i with
  | zero =>
    cases h
    exact .inl ⟨rfl, rfl⟩
  | succ j =>
    have h : (ds.map (fun d => some (Cell.dat d)) ++ List.replicate (n - (ds.length + 1)) none)[j]? = some (some c) := h
    refine .inr ⟨j, ?_⟩
    by_cases hi : j < ds.length
    · rw [List.getElem?_append_left (by simpa using hi), List.getElem?_map, List.getElem?_eq_getElem hi] at h
      cases h
      exact ⟨_, rfl, rfl, List.getElem?_eq_getElem hi⟩
    · rw [List.getElem?_append_right (by simpa using hi), List.getElem?_replicate] at h
      split at h <;> cases h
theorem rep_startM {A : Hid} {H : Hp} {N : List Str} {d : D} {ds : List D} {p : Addr} {vr : List V} (t : TupOk A H) (a : A p) (top : RepTop G A H d p) (r : RepDs G A H ds vr) :
    Rep G A (L2.start N (.ref p :: vr)) H (startM N.length d ds) ∧ ∀ q, Own (L2.start N (.ref p :: vr)) (startM N.length d ds) q → q = p := by
  have z : (L2.start N (.ref p :: vr))[0]? = some (some (.ref p)) := start_get rfl
  have own : ∀ (i : Nat) d', (startM N.length d ds)[i]? = some (some (Cell.own d')) → i = 0 := fun i d' h => by
    rcases startM_get h with ⟨h0, _⟩ | ⟨_, _, _, e, _⟩
    · exact h0
    · cases e
  refine ⟨⟨?_, t, fun i c h => ?_, fun i j d1 d2 v h1 h2 _ _ => (own i d1 h1).trans (own j d2 h2).symm⟩, fun q ⟨i, d', h1, h2⟩ => ?_⟩
  · unfold startM L2.start
    simp only [List.length_cons, List.length_append, List.length_map, List.length_replicate, r.length]
    omega
  · rcases startM_get h with ⟨rfl, rfl⟩ | ⟨j, d', rfl, rfl, e⟩
    · exact ⟨_, z, p, rfl, a, top⟩
    · obtain ⟨v, e1, k⟩ := r.get e
      exact ⟨v, start_get (i := j + 1) e1, k⟩
  · have hi := own i d' h1
    subst hi
    rw [z] at h2
    cases h2
    rfl

theorem ret_ok {A : Hid} {σ : L2.St} {H H0 : Hp} {e : Env} {o : Out} {v : V} {rv : RV} (R : Rep G A σ H e) (ow : ∀ i d p, o = .slot i → e[i]? = some (some (.own d)) → σ[i]? = some (some (.ref p)) → H0 p = none) (ok : OutOk G H0 A σ H e o v) (h : retOf e o = some rv) : RvOk G H0 A H rv v := by
  cases o with
  | dat d =>
    cases h
    exact ok
  | fresh d =>
    cases h
    obtain ⟨p, e1, e2, a, _, t⟩ := ok
    exact ⟨p, e1, e2, a, t⟩
  | slot i =>
    have ok : σ[i]? = some (some v) := ok
    unfold retOf at h
    simp only at h
    split at h
    · rename_i d e1
      cases h
      obtain ⟨u, e2, c⟩ := R.cell i _ e1
      rw [ok] at e2
      cases e2
      exact c
    · rename_i d e1
      cases h
      obtain ⟨u, e2, p, e3, a, t⟩ := R.cell i _ e1
      rw [ok] at e2
      cases e2
      subst e3
      exact ⟨p, rfl, ow i d p rfl e1 ok, a, t⟩
    · cases h

/-- the promise of a def that changes nothing, from its body -/
theorem runP_ok {N : List Str} {g : SF} {Φ : List D → Option RR} {A : Hid} {H : Hp} {ds : List D} {vs : List V} {Q : VK} {E : XK} (hΦ : ∀ ds r, Φ ds = some r → runP g N.length ds = some r) (t : TupOk A H) (r : RepDs G A H ds vs) (p : PostP G XR A H Q E (Φ ds)) :
    tEx G XR (fun c d _ H => E c d H) [] g { nx := fun _ H' => Q .non H', rt := Q } (L2.start N vs) H := by
  cases hr : Φ ds with
  | none =>
    rw [hr] at p
    exact p.elim
  | some rr =>
    rw [hr] at p
    have hg := hΦ ds rr hr
    obtain ⟨R, no⟩ := rep_startE (N := N) t r
    refine ⟨A, startE N.length ds, R, ?_⟩
    have ext : ∀ {σ' A' H' e}, Rep G A' σ' H' e → Fr (Own (L2.start N vs) (startE N.length ds)) A H (Own σ' e) A' H' → Ext A H A' H' := fun R' F => ⟨fun a o h => F.keep a o h (no a), R'.tup⟩
    unfold runP at hg
    cases hq : g (startE N.length ds) with
    | none =>
      rw [hq] at hg
      cases hg
    | some q =>
      rw [hq] at hg
      cases q with
      | ex x e =>
        cases hg
        exact fun σ' A' H' c d R' K F xr => p c d A' H' (ext R' F) xr
      | ok fl e =>
        cases fl with
        | next =>
          cases hg
          exact fun σ' A' H' R' K F => p .non A' H' (ext R' F) (by show RepD G A' H' _ _; unfold RepD; rfl)
        | brk => cases hg
        | cont => cases hg
        | ret o =>
          simp only at hg
          cases ho : retOf e o with
          | none =>
            rw [ho] at hg
            cases hg
          | some rv =>
            rw [ho] at hg
            cases hg
            refine fun σ' A' H' v R' K F ok => p v A' H' (ext R' F) (ret_ok R' (fun i d q _ h1 h2 => ?_) ok ho)
            rcases F.own q ⟨i, d, h1, h2⟩ with z | z
            · exact absurd z (no q)
            · exact z
theorem runM_ok {N : List Str} {g : SF} {Φ : D → List D → Option RM} {A : Hid} {H : Hp} {d : D} {ds : List D} {p : Addr} {vr : List V} {Q : VK} {E : XK} (hΦ : ∀ d ds r, Φ d ds = some r → runM g N.length d ds = some r) (t : TupOk A H) (a : A p) (top : RepTop G A H d p)
    (r : RepDs G A H ds vr) (po : PostM G XR p A H Q E (Φ d ds)) : tEx G XR (fun c d _ H => E c d H) [0] g { nx := fun _ H' => Q .non H', rt := Q } (L2.start N (.ref p :: vr)) H := by
  cases hr : Φ d ds with
  | none =>
    rw [hr] at po
    exact po.elim
  | some rr =>
    rw [hr] at po
    have hg := hΦ d ds rr hr
    obtain ⟨R, own⟩ := rep_startM (N := N) t a top r
    have z : (L2.start N (.ref p :: vr))[0]? = some (some (.ref p)) := start_get rfl
    refine ⟨A, startM N.length d ds, R, ?_⟩
    have fin : ∀ {σ' A' H' e d'}, Rep G A' σ' H' e → Keep [0] (L2.start N (.ref p :: vr)) σ' → Fr (Own (L2.start N (.ref p :: vr)) (startM N.length d ds)) A H (Own σ' e) A' H' → own0 e = some d' → ExtBut p A H A' H' ∧ RepTop G A' H' d' p ∧ σ'[0]? = some (some (.ref p)) := by
      intro σ' A' H' e d' R' K F ho
      unfold own0 at ho
      split at ho
      · rename_i d2 e1
        cases ho
        obtain ⟨v, e2, q, e3, a2, t2⟩ := R'.cell 0 _ e1
        have k0 : σ'[0]? = some (some (.ref p)) := (K 0 (by simp)).trans z
        rw [k0] at e2
        cases e2
        cases e3
        exact ⟨⟨fun b o h n => F.keep b o h fun w => n (own b w), R'.tup, a2⟩, t2, k0⟩
      · cases ho
    unfold runM at hg
    cases hq : g (startM N.length d ds) with
    | none =>
      rw [hq] at hg
      cases hg
    | some q =>
      rw [hq] at hg
      cases q with
      | ex x e =>
        simp only at hg
        cases ho : own0 e with
        | none =>
          rw [ho] at hg
          cases hg
        | some d' =>
          rw [ho] at hg
          cases hg
          intro σ' A' H' c dx R' K F xr
          obtain ⟨f1, f2, _⟩ := fin R' K F ho
          exact po c dx A' H' f1 f2 xr
      | ok fl e =>
        cases fl with
        | next =>
          simp only at hg
          cases ho : own0 e with
          | none =>
            rw [ho] at hg
            cases hg
          | some d' =>
            rw [ho] at hg
            cases hg
            intro σ' A' H' R' K F
            obtain ⟨f1, f2, _⟩ := fin R' K F ho
            exact po .non A' H' f1 f2 (by show RepD G A' H' _ _; unfold RepD; rfl)
        | brk => cases hg
        | cont => cases hg
        | ret o =>
          simp only at hg
          cases ho : own0 e with
          | none =>
            rw [ho] at hg
            cases hg
          | some d' =>
            cases hv : retOf e o with
            | none =>
              rw [ho, hv] at hg
              cases hg
            | some rv =>
              rw [ho, hv] at hg
              simp only at hg
              split at hg
              · rename_i hn
                cases hg
                intro σ' A' H' v R' K F ok
                obtain ⟨f1, f2, k0⟩ := fin R' K F ho
                refine po v A' H' f1 f2 (ret_ok R' (fun i d2 q ei h1 h2 => ?_) ok hv)
                rcases F.own q ⟨i, d2, h1, h2⟩ with w | w
                · exfalso
                  have hqp := own q w
                  subst hqp
                  unfold own0 at ho
                  split at ho
                  · rename_i d3 e3
                    have hi := R'.inj i 0 d2 d3 _ h1 e3 h2 k0
                    rw [ei, hi] at hn
                    exact Bool.noConfusion hn
                  · cases ho
                · exact w
              · cases hg
end

section
variable {P : Program} {w : World} {K : PySem.W.Frag} {mg : Str → Option Value} {base : Heap} {G : Tb} {XR : XW}
/-- THE RULE: a def that changes nothing -/
theorem fn_p {x qual : Str} {st : Stmt} {f : Addr} {fd : FuncData} {N ps : List Str} {k : Nat} {g : SF} {Φ : List D → Option RR} (F : Fun K x qual st f fd) (S : FnScope N ps (defScope st)) (hΦ : ∀ ds r, Φ ds = some r → runP g N.length ds = some r)
    (der : ∀ (cdv : Value) (A : Around) (outer : List PySem.Env) (s : Shared) (H : Hp) (E : XK), Room k (A.deeper (envOfC qual (defScope st) s.heap.objs.size f cdv)) → A.guards = some [] →
      PSs (cxOf (L2.CX P w) P w K mg base N qual (defScope st) f cdv A outer s H E) (defBody st) (tEx G XR (fun c d _ H => E c d H) [] g)) : FnG P w K mg base (k + 1) f fd ps (spP G XR ps.length Φ) := by
  refine fng_of F S (fun vs H Q E h => ?_) fun cdv A outer s H vs Q E hr hg h => ?_
  · obtain ⟨_, _, hl, _⟩ := h
    exact hl
  · obtain ⟨A', ds, hl, t, r, p⟩ := h
    exact ⟨_, der cdv A outer s H E hr hg, runP_ok hΦ t r p⟩
/-- .. one that changes its first argument -/
theorem fn_m {x qual : Str} {st : Stmt} {f : Addr} {fd : FuncData} {N ps : List Str} {k : Nat} {g : SF} {Φ : D → List D → Option RM} (F : Fun K x qual st f fd) (S : FnScope N ps (defScope st)) (hΦ : ∀ d ds r, Φ d ds = some r → runM g N.length d ds = some r)
    (der : ∀ (cdv : Value) (A : Around) (outer : List PySem.Env) (s : Shared) (H : Hp) (E : XK), Room k (A.deeper (envOfC qual (defScope st) s.heap.objs.size f cdv)) → A.guards = some [] →
      PSs (cxOf (L2.CX P w) P w K mg base N qual (defScope st) f cdv A outer s H E) (defBody st) (tEx G XR (fun c d _ H => E c d H) [0] g)) : FnG P w K mg base (k + 1) f fd ps (spM G XR ps.length Φ) := by
  refine fng_of F S (fun vs H Q E h => ?_) fun cdv A outer s H vs Q E hr hg h => ?_
  · obtain ⟨_, _, _, _, _, _, hl, _⟩ := h
    exact hl
  · obtain ⟨A', p, vr, d, ds, rfl, hl, t, a, top, r, po⟩ := h
    exact ⟨_, der cdv A outer s H E hr hg, runM_ok hΦ t a top r po⟩
end

/-! ### calls, as functions of data -/
section
variable {G : Tb} {XR : XW} {W : WX} {X : Cx}
def callK (r : Option RR) (e : Env) : Option (Rs Out) := match r with
  | some (.ok rv) => some (.ok rv.out e)
  | some (.ex x) => some (.ex x e)
  | none => none
def cCall (n : Nat) (Φ : List D → Option RR) (a : AF) : EF := fun env => bd (a env) fun ds e => if ds.length = n then callK (Φ ds) e else none
theorem call_post {Φr : Option RR} {σ : L2.St} {A A0 : Hid} {H H0 : Hp} {env0 e : Env} {Q : VK} (R : Rep G A σ H e) (F0 : Fr (Own σ env0) A0 H0 (Own σ e) A H) (p : Post G XR W σ A H e (fun o e A' H' => ∀ v, OutOk G H0 A' σ H' e o v → Q v H') (callK Φr e)) :
    PostP G XR A H Q (fun c d H' => W c d σ H') Φr := by
  cases Φr with
  | none => exact p
  | some r =>
    cases r with
    | ok rv => exact fun v A' H' ex ro => fin_rv R (fun q h => F0.none h) p ex ro
    | ex x => exact fun c d A' H' ex xr => p A' H' c d (ex.rep R) (ex.fr _) xr
theorem ev_call {k n : Nat} {f : Addr} {fd : FuncData} {ps : List Str} {Φ : List D → Option RR} {x : Str} {p pos : Pos} {e : Expr} {es : List Expr} {a : AF} (F : FnG X.prog X.w X.K X.mg X.base k f fd ps (spP G XR n Φ)) (hr : Room k X.A) (hgu : X.A.guards = some []) (tk : Takes X W) (hg : Gl X x) (hm : X.mg x = some (.ref f))
    (hk : PySem.W.keepIn X.K (.ref f) = true) (hb : Binds X.K fd ps []) (ha : PA X (e :: es) (tEvA G XR W a)) (hdb : (x == ("__debug__" : Str)) = false := by decide)
    (he : starEach (e :: es) X.env = (false, eval e X.env) :: starEach es X.env := by rfl) (hpl : (backTo pos (starEach es X.env)).any (·.1) = false := by rfl) : PE X (.Call (.Name x p) (e :: es) [] pos) (tEv G XR W (cCall n Φ a)) :=
  PE_imp (pe_callG F hr hgu tk hg hm hk hb ha hdb he hpl) fun σ H Q ⟨A, env, R, p⟩ => by
    refine ⟨A, env, R, ?_⟩
    unfold cCall at p
    cases hf : a env with
    | none =>
      rw [hf] at p
      exact p
    | some r =>
      rw [hf] at p
      cases r with
      | ex x e1 => exact p
      | ok ds e1 =>
        intro A1 H1 R1 F1 vs k1
        rw [bd_ok] at p
        split at p
        · rename_i hn
          exact ⟨A1, ds, by rw [← k1.length]; exact hn, R1.tup, k1, call_post R1 F1 (Post.imp F1 (fun _ _ _ _ _ q => q) p)⟩
        · exact p.elim
end
end Tk
/-! Tk5: calls that change their first argument, keywords, methods of own lists, item stores, comprehensions. -/
namespace Tk
open PySem PySem.Spec PyProof.Rows L2

section
variable {G : Tb} {XR : XW} {W : WX} {X : Cx} {fx : List Nat}

theorem ExtBut.stab {p : Addr} {A A' : Hid} {H H' : Hp} (x : ExtBut p A H A' H') (a : A p) : Stab A H A' H' := fun b o e n =>
  have q := x.same b o e fun z => n (z ▸ a)
  ⟨q.1, fun z => n (q.2.mp z)⟩
theorem Rep.setTop {σ : L2.St} {A A' : Hid} {H H' : Hp} {e : Env} {i : Nat} {d d' : D} {p : Addr} (R : Rep G A σ H e) (h1 : e[i]? = some (some (.own d))) (h2 : σ[i]? = some (some (.ref p))) (x : ExtBut p A H A' H') (t : RepTop G A' H' d' p) :
    Rep G A' σ H' (e.set i (some (.own d'))) ∧ Fr (Own σ e) A H (Own σ (e.set i (some (.own d')))) A' H' := by
  have hp : Own σ e p := ⟨i, d, h1, h2⟩
  have ha : A p := R.own_hid hp
  have st := x.stab ha
  have back : ∀ (j : Nat) (c : D), (e.set i (some (.own d')))[j]? = some (some (Cell.own c)) → ∃ c', e[j]? = some (some (Cell.own c')) := fun j c k => by
    by_cases hj : i = j
    · subst hj
      exact ⟨d, h1⟩
    · rw [get_set_ne hj] at k
      exact ⟨c, k⟩
  refine ⟨⟨by rw [List.length_set]; exact R.len, x.tup, fun j c k => ?_, fun j1 j2 d1 d2 w k1 k2 k3 k4 => ?_⟩, ⟨fun b o hb n => x.same b o hb fun z => n (z ▸ hp), fun q ⟨j, c, k1, k2⟩ => ?_, fun b o hb => ?_⟩⟩
  · by_cases hj : i = j
    · subst hj
      rw [get_set_self h1] at k
      cases k
      exact ⟨_, h2, p, rfl, x.here, t⟩
    · rw [get_set_ne hj] at k
      obtain ⟨u, e3, c3⟩ := R.cell j c k
      refine ⟨u, e3, ?_⟩
      cases c with
      | dat d0 => exact RepD.mono st R.tup d0 u c3
      | exc y => exact CellOk.exc_mono st R.tup c3
      | own d0 =>
        obtain ⟨q, e4, a4, t4⟩ := c3
        subst e4
        have hq : q ≠ p := fun z => hj (R.inj i j d d0 (.ref p) h1 k h2 (z ▸ e3))
        obtain ⟨o, e5, _⟩ := R.tup q a4
        exact ⟨q, rfl, (x.same q o e5 hq).2.mpr a4, t4.mono st R.tup fun o' z => (x.same q o' z hq).1⟩
  · obtain ⟨c1, m1⟩ := back _ _ k1
    obtain ⟨c2, m2⟩ := back _ _ k2
    exact R.inj j1 j2 c1 c2 w m1 m2 k3 k4
  · obtain ⟨c1, m1⟩ := back _ _ k1
    exact .inl ⟨j, c1, m1, k2⟩
  · by_cases hb' : b = p
    · subst hb'
      obtain ⟨o', e', _⟩ := t.some
      exact ⟨o', e'⟩
    · exact ⟨o, (x.same b o hb hb').1⟩

/-! ### f(own, ..) -/
def callMK (i : Nat) (r : Option RM) (e : Env) : Option (Rs Out) := match r with
  | some (.ok rv d) => some (.ok rv.out (e.set i (some (.own d))))
  | some (.ex x d) => some (.ex x (e.set i (some (.own d))))
  | none => none
def ownAt (e : Env) (i : Nat) : Option D := match (e[i]? : Option (Option Cell)) with
  | some (some (.own d)) => some d
  | _ => none
theorem ownAt_eq {e : Env} {i : Nat} {d : D} (h : ownAt e i = some d) : e[i]? = some (some (.own d)) := by
  unfold ownAt at h
  split at h
  · cases h
    assumption
  · cases h
def cCallM (n : Nat) (Φ : D → List D → Option RM) (i : Nat) (a : AF) : EF := fun env => match ownAt env i with
  | some _ => bd (a env) fun ds e => if ds.length + 1 = n then match ownAt e i with
    | some d => callMK i (Φ d ds) e
    | none => none else none
  | none => none
theorem rv_out_set {σ : L2.St} {A' : Hid} {H H' H0 : Hp} {e : Env} {i : Nat} {d d' : D} {rv : RV} {v : V} {A : Hid} (R : Rep G A σ H e) (h1 : e[i]? = some (some (.own d))) (k : ∀ p, H p = none → H0 p = none) (h : RvOk G H A' H' rv v) : OutOk G H0 A' σ H' (e.set i (some (.own d'))) rv.out v := by
  cases rv with
  | dat d => exact h
  | fresh d0 =>
    obtain ⟨q, e1, e2, a, t⟩ := h
    refine ⟨q, e1, k q e2, a, fun ⟨j, c, k1, k2⟩ => ?_, t⟩
    have : ∃ c', e[j]? = some (some (Cell.own c')) := by
      by_cases hj : i = j
      · subst hj
        exact ⟨d, h1⟩
      · rw [get_set_ne hj] at k1
        exact ⟨c, k1⟩
    obtain ⟨c', m⟩ := this
    obtain ⟨o, e3⟩ := R.own_some ⟨j, c', m, k2⟩
    rw [e2] at e3
    cases e3
theorem ev_callM {k n i : Nat} {f : Addr} {fd : FuncData} {ps : List Str} {Φ : D → List D → Option RM} {x : Str} {p pos : Pos} {e : Expr} {es : List Expr} {a : AF} (F : FnG X.prog X.w X.K X.mg X.base k f fd ps (spM G XR n Φ)) (hr : Room k X.A) (hgu : X.A.guards = some []) (tk : Takes X W) (hg : Gl X x) (hm : X.mg x = some (.ref f))
    (hk : PySem.W.keepIn X.K (.ref f) = true) (hb : Binds X.K fd ps []) (hv : PE X e (tVar i)) (ha : PA X es (tEvA G XR W a)) (hdb : (x == ("__debug__" : Str)) = false := by decide)
    (he : starEach (e :: es) X.env = (false, eval e X.env) :: starEach es X.env := by rfl) (hpl : (backTo pos (starEach es X.env)).any (·.1) = false := by rfl) : PE X (.Call (.Name x p) (e :: es) [] pos) (tEv G XR W (cCallM n Φ i a)) :=
  PE_imp (pe_callG F hr hgu tk hg hm hk hb (pa_cons hv ha he) hdb he hpl) fun σ H Q ⟨A, env, R, p⟩ => by
    unfold cCallM at p
    split at p
    · rename_i d0 h0
      obtain ⟨v, e0, q, e1, _⟩ := R.cell i _ (ownAt_eq h0)
      subst e1
      refine ⟨_, e0, (evA_seq R p).imp fun vs H1 ⟨A1, e1, ds, R1, k1, F1, p1⟩ => ?_⟩
      split at p1
      · rename_i hn
        split at p1
        · rename_i d h1
          have h1 := ownAt_eq h1
          obtain ⟨v, e2, q', e3, a3, t3⟩ := R1.cell i _ h1
          rw [e0] at e2
          cases e2
          cases e3
          refine ⟨A1, q, vs, d, ds, rfl, by show vs.length + 1 = n; rw [← k1.length]; exact hn, R1.tup, a3, t3, k1, ?_⟩
          cases hr : Φ d ds with
          | none =>
            rw [hr] at p1
            exact p1
          | some r =>
            rw [hr] at p1
            cases r with
            | ok rv d' =>
              intro v A' H' ex t' ro
              obtain ⟨R2, F2⟩ := R1.setTop h1 e0 ex t'
              exact p1 A' H' R2 F2 v (rv_out_set R1 h1 (fun q h => F1.none h) ro)
            | ex x d' =>
              intro c dx A' H' ex t' xr
              obtain ⟨R2, F2⟩ := R1.setTop h1 e0 ex t'
              exact p1 A' H' c dx R2 F2 xr
        · exact p1.elim
      · exact p1.elim
    · exact p.elim

/-! ### f(a new list, ..) -/
def cCallT (n : Nat) (Φ : D → List D → Option RM) (f : EF) (a : AF) : EF := fun env => bd (f env) fun o e => match o with
  | .fresh d => bd (a e) fun ds e2 => if ds.length + 1 = n then match Φ d ds with
    | some (.ok rv _) => some (.ok rv.out e2)
    | some (.ex x _) => some (.ex x e2)
    | none => none else none
  | _ => none
theorem Rep.butTop {σ : L2.St} {O0 A A' A0 : Hid} {H H' H0 : Hp} {e : Env} {p : Addr} (R : Rep G A σ H e) (F0 : Fr O0 A0 H0 (Own σ e) A H) (a : A p) (n : ¬ Own σ e p) (h0 : H0 p = none) (x : ExtBut p A H A' H') (hx : ∃ o, H' p = some o) : Rep G A' σ H' e ∧ Fr O0 A0 H0 (Own σ e) A' H' := by
  have st := x.stab a
  refine ⟨⟨R.len, x.tup, fun j c k => ?_, R.inj⟩, ⟨fun b o hb nb => ?_, F0.own, fun b o hb => ?_⟩⟩
  · obtain ⟨u, e3, c3⟩ := R.cell j c k
    refine ⟨u, e3, ?_⟩
    cases c with
    | dat d0 => exact RepD.mono st R.tup d0 u c3
    | exc y => exact CellOk.exc_mono st R.tup c3
    | own d0 =>
      obtain ⟨q, e4, a4, t4⟩ := c3
      subst e4
      have hq : q ≠ p := fun z => n ⟨j, d0, k, z ▸ e3⟩
      obtain ⟨o, e5, _⟩ := R.tup q a4
      exact ⟨q, rfl, (x.same q o e5 hq).2.mpr a4, t4.mono st R.tup fun o' z => (x.same q o' z hq).1⟩
  · obtain ⟨h1, i1⟩ := F0.keep b o hb nb
    have hbp : b ≠ p := fun z => by
      rw [z, h0] at hb
      cases hb
    obtain ⟨h2, i2⟩ := x.same b o h1 hbp
    exact ⟨h2, i2.trans i1⟩
  · obtain ⟨o1, h1⟩ := F0.dom b o hb
    have hbp : b ≠ p := fun z => by
      rw [z, h0] at hb
      cases hb
    exact ⟨o1, (x.same b o1 h1 hbp).1⟩
/-! ### keywords -/
def pick {α : Type} (pm : List Nat) (l : List α) : List α := pm.filterMap fun i => l[i]?
/-- f(e, .., k = v, ..): pm picks the parameters' values out of the positional ones, the keywords', the defaults -/
def cCallK (n np m : Nat) (Φ : List D → Option RR) (pm : List Nat) (dd : List D) (a kw : AF) : EF := fun env => bd (a env) fun ds e => bd (kw e) fun zs e2 =>
  if ds.length = np ∧ zs.length = m ∧ (pick pm (ds ++ zs ++ dd)).length = n then callK (Φ (pick pm (ds ++ zs ++ dd))) e2 else none
def KwB (K : PySem.W.Frag) (fd : FuncData) (ps ks : List Str) (np m : Nat) (pm : List Nat) (dv : List Value) : Prop :=
  ∀ (s : Shared) (us ws : List Value), K.In s.heap → us.length = np → ws.length = m → BindsTo s fd ⟨us, ks.zip ws⟩ (ps.zip (pick pm (us ++ ws ++ dv)))
section
variable {k : Nat} {f : Addr} {fd : FuncData} {ps ks : List Str} {sp : Sp} {x : Str} {p pos : Pos} {e : Expr} {es : List Expr} {kws : List Keyword} {t tk : TA} {np m n : Nat} {pm : List Nat} {dv : List Value} {dvs : List V} {dd : List D} {Φ : List D → Option RR} {a kw : AF}
end

/-! ### methods of an own list -/
def methK (i : Nat) (r : Option (RV × D)) (e : Env) : Option (Rs Out) := match r with
  | some (rv, d) => some (.ok rv.out (e.set i (some (.own d))))
  | none => none
def cMeth (F : List D → List D → Option (D × List D)) (i : Nat) (a : AF) : EF := fun env => match ownAt env i with
  | some (.lst _) => bd (a env) fun ds e => match ownAt e i with
    | some (.lst l) => match F l ds with
      | some (r, l') => some (.ok (.dat r) (e.set i (some (.own (.lst l')))))
      | none => none
    | _ => none
  | _ => none
/-- what a method makes of a list and of its arguments -/
def MtOk (G : Tb) (r : V → List V → Hp → VK → Prop) (F : List D → List D → Option (D × List D)) : Prop := ∀ (l ds : List D) (d : D) (l' : List D) (A : Hid) (H : Hp) (p : Addr) (vs xs : List V) (Q : VK), F l ds = some (d, l') → TupOk A H → A p → H p = some (.lst vs) → RepDs G A H l vs → RepDs G A H ds xs →
  (∀ v ws, RepD G A H d v → RepDs G A H l' ws → Q v (upd H p (.lst ws))) → r (.ref p) xs H Q
theorem ExtBut.lst {A : Hid} {H : Hp} (t : TupOk A H) {p : Addr} (a : A p) (ws : List V) : ExtBut p A H A (upd H p (.lst ws)) := by
  refine ⟨fun b o h n => ⟨by rw [upd_ne n]; exact h, Iff.rfl⟩, fun q hq => ?_, a⟩
  by_cases e : q = p
  · subst e
    exact ⟨_, upd_same, (fun _ z => by cases z), (fun _ _ z => by cases z)⟩
  · obtain ⟨o, e1, r⟩ := t q hq
    exact ⟨o, by rw [upd_ne e]; exact e1, r⟩
section
variable {id : String} {name : Str} {r : V → List V → Hp → VK → Prop} {F : List D → List D → Option (D × List D)} {o e : Expr} {es : List Expr} {apos cpos : Pos} {i : Nat} {a : AF}
end
def fAppend (l ds : List D) : Option (D × List D) := match ds with
  | [d] => if szOk l.length = true then some (.non, l ++ [d]) else none
  | _ => none
theorem szOk.lt {n : Nat} (h : szOk n = true) : n < sizeLine := Nat.lt_of_le_of_lt (of_decide_eq_true h) (by decide)
def fPop (l ds : List D) : Option (D × List D) := match ds with
  | [] => match l[l.length - 1]? with
    | some d => some (d, l.dropLast)
    | none => none
  | _ => none
theorem RepDs.dropLast {A : Hid} {H : Hp} {ds : List D} {vs : List V} (h : RepDs G A H ds vs) : RepDs G A H ds.dropLast vs.dropLast := by
  rw [List.dropLast_eq_take, List.dropLast_eq_take, ← h.length]
  exact h.take _
def fPopAt (l ds : List D) : Option (D × List D) := match ds with
  | [.int i] => if small62 i = true then match ixN l.length i with
    | some k => match l[k]? with
      | some d => some (d, l.eraseIdx k)
      | none => none
    | none => none else none
  | _ => none
def fExtend (l ds : List D) : Option (D × List D) := match ds with
  | [.lst m] => if szOk (l.length + m.length) = true then some (.non, l ++ m) else none
  | _ => none
end
end Tk
/-! Tk6: list comprehensions, item stores. -/
namespace Tk
open PySem PySem.Spec PyProof.Rows L2

theorem bd_eq_ok {α β : Type} {r : Option (Rs α)} {k : α → Env → Option (Rs β)} {b : β} {e : Env} (h : bd r k = some (.ok b e)) : ∃ a e', r = some (.ok a e') ∧ k a e' = some (.ok b e) := by
  cases r with
  | none => cases h
  | some q =>
    cases q with
    | ok a e' => exact ⟨a, e', rfl, h⟩
    | ex x e' => cases h

def wipeE (e : Env) : List Nat → Env
  | [] => e
  | v :: vs => (wipeE e vs).set v none
def unwipe (e0 e : Env) : List Nat → Env
  | [] => e
  | v :: vs => (unwipe e0 e vs).set v (match (e0[v]? : Option (Option Cell)) with
    | some c => c
    | none => none)
theorem wipeE_length (e : Env) : ∀ vs, (wipeE e vs).length = e.length
  | [] => rfl
  | v :: vs => by
    unfold wipeE
    rw [List.length_set, wipeE_length e vs]
theorem unwipe_length (e0 e : Env) : ∀ vs, (unwipe e0 e vs).length = e.length
  | [] => rfl
  | v :: vs => by
    unfold unwipe
    rw [List.length_set, unwipe_length e0 e vs]
theorem wipeE_get {e : Env} {j : Nat} {c : Cell} : ∀ {vs : List Nat}, (wipeE e vs)[j]? = some (some c) → j ∉ vs ∧ e[j]? = some (some c)
  | [], h => ⟨by simp, h⟩
  | v :: vs, h => by
    unfold wipeE at h
    by_cases hj : v = j
    · subst hj
      by_cases hl : v < (wipeE e vs).length
      · rw [List.getElem?_set_self hl] at h
        cases h
      · rw [List.getElem?_eq_none (by rw [List.length_set]; exact Nat.le_of_not_lt hl)] at h
        cases h
    · rw [List.getElem?_set_ne hj] at h
      obtain ⟨n, q⟩ := wipeE_get h
      exact ⟨by simp [Ne.symm hj, n], q⟩
theorem wipe_get {σ : L2.St} {j : Nat} : ∀ {vs : List Nat}, j ∉ vs → (wipe σ vs)[j]? = σ[j]?
  | [], _ => rfl
  | v :: vs, h => by
    unfold wipe
    rw [List.getElem?_set_ne (fun z => h (by simp [z]))]
    exact wipe_get fun z => h (List.mem_cons_of_mem _ z)
theorem wipe_in {σ : L2.St} {j : Nat} {v : V} : ∀ {vs : List Nat}, (wipe σ vs)[j]? = some (some v) → j ∉ vs ∧ σ[j]? = some (some v) := fun {vs} h => by
  obtain ⟨a, b⟩ := wipe_some h
  exact ⟨b, a⟩
theorem unwipe_in {e0 e : Env} {j : Nat} (hl : e.length = e0.length) : ∀ {vs : List Nat}, j ∈ vs → (unwipe e0 e vs)[j]? = e0[j]?
  | [], h => by cases h
  | v :: vs, h => by
    unfold unwipe
    by_cases hj : v = j
    · subst hj
      by_cases hv : v < e0.length
      · rw [List.getElem?_set_self (by rw [unwipe_length, hl]; exact hv), List.getElem?_eq_getElem hv]
      · rw [List.getElem?_eq_none (by rw [List.length_set, unwipe_length, hl]; exact Nat.le_of_not_lt hv), List.getElem?_eq_none (Nat.le_of_not_lt hv)]
    · rw [List.getElem?_set_ne hj]
      rcases List.mem_cons.mp h with z | z
      · exact absurd z.symm hj
      · exact unwipe_in hl z
theorem unwipe_out {e0 e : Env} {j : Nat} : ∀ {vs : List Nat}, j ∉ vs → (unwipe e0 e vs)[j]? = e[j]?
  | [], _ => rfl
  | v :: vs, h => by
    unfold unwipe
    rw [List.getElem?_set_ne (fun z => h (by simp [z]))]
    exact unwipe_out fun z => h (List.mem_cons_of_mem _ z)

def compG (vs : List Nat) (g : GF) (t : TF) (f : UF) : List D → List D → Env → Option (Rs (List D))
  | [], acc, env => some (.ok acc env)
  | d :: ds, acc, env => bd (g d env) fun _ e1 => if e1.length = env.length then bd (t e1) fun b e2 => if b = true then bd (f e2) fun y e3 =>
      if szOk acc.length = true then compG vs g t f ds (acc ++ [y]) (wipeE e3 vs) else none else compG vs g t f ds acc (wipeE e2 vs) else none
def lcK (vs : List Nat) (g : GF) (t : TF) (f : UF) (ds : List D) (e : Env) : Option (Rs Out) := match compG vs g t f ds [] (wipeE e vs) with
  | some (.ok acc e2) => if e2.length = e.length then some (.ok (.fresh (.lst acc)) (unwipe e e2 vs)) else none
  | _ => none
def cLc (it : AF) (vs : List Nat) (g : GF) (t : TF) (f : UF) : EF := fun env => bd (it env) (lcK vs g t f)

section
variable {G : Tb} {XR : XW} {W : WX} {X : Cx}

theorem Rep.wipe {σ : L2.St} {A : Hid} {H : Hp} {e : Env} (R : Rep G A σ H e) (vs : List Nat) : Rep G A (L2.wipe σ vs) H (wipeE e vs) ∧ ∀ q, Own (L2.wipe σ vs) (wipeE e vs) q → Own σ e q := by
  refine ⟨⟨by rw [wipeE_length, wipe_length]; exact R.len, R.tup, fun j c k => ?_, fun i j d1 d2 v k1 k2 k3 k4 => ?_⟩, fun q ⟨j, d, k1, k2⟩ => ?_⟩
  · obtain ⟨n, q⟩ := wipeE_get k
    rw [wipe_get n]
    exact R.cell j c q
  · exact R.inj i j d1 d2 v (wipeE_get k1).2 (wipeE_get k2).2 (wipe_in k3).2 (wipe_in k4).2
  · exact ⟨j, d, (wipeE_get k1).2, (wipe_in k2).2⟩

theorem st_ext {σ σ' : L2.St} (hl : σ.length = σ'.length) (h : ∀ i, i < σ.length → σ[i]? = σ'[i]?) : σ = σ' := by
  apply List.ext_getElem? 
  intro i
  by_cases hi : i < σ.length
  · exact h i hi
  · rw [List.getElem?_eq_none (Nat.le_of_not_lt hi), List.getElem?_eq_none (by omega)]
theorem wipe_at {σ : L2.St} {j : Nat} : ∀ {vs : List Nat}, j ∈ vs → j < σ.length → (wipe σ vs)[j]? = some none
  | [], h, _ => by cases h
  | v :: vs, h, hl => by
    unfold L2.wipe
    by_cases hj : v = j
    · subst hj
      rw [List.getElem?_set_self (by rw [wipe_length]; exact hl)]
    · rw [List.getElem?_set_ne hj]
      rcases List.mem_cons.mp h with z | z
      · exact absurd z.symm hj
      · exact wipe_at z hl
theorem wipe_back {σ σ' : L2.St} {vs fx : List Nat} (hl : σ'.length = σ.length) (hf : ∀ j, j < σ.length → j ∉ vs → j ∈ fx) (k : Keep fx (wipe σ vs) σ') : wipe σ' vs = wipe σ vs := by
  refine st_ext (by rw [wipe_length, wipe_length, hl]) fun i hi => ?_
  rw [wipe_length] at hi
  by_cases hv : i ∈ vs
  · rw [wipe_at hv hi, wipe_at hv (by omega)]
  · rw [wipe_get hv, k i (hf i (by omega) hv)]

/-- back from the block -/
theorem unwipe_ok {σ : L2.St} {vs : List Nat} {A1 A : Hid} {H1 H : Hp} {e0 e : Env} (R1 : Rep G A1 σ H1 e0) (R : Rep G A (L2.wipe σ vs) H e) (hl : e.length = e0.length) (F : Fr (Own (L2.wipe σ vs) (wipeE e0 vs)) A1 H1 (Own (L2.wipe σ vs) e) A H) :
    Rep G A σ H (unwipe e0 e vs) ∧ Fr (Own σ e0) A1 H1 (Own σ (unwipe e0 e vs)) A H := by
  have sub : ∀ q, Own (L2.wipe σ vs) (wipeE e0 vs) q → Own σ e0 q := (R1.wipe vs).2
  have st : Stab A1 H1 A H := F.stab fun p q => R1.own_hid (sub p q)
  have inE : ∀ (j : Nat) (c : Cell), (unwipe e0 e vs)[j]? = some (some c) → (j ∈ vs ∧ e0[j]? = some (some c)) ∨ (j ∉ vs ∧ e[j]? = some (some c)) := fun j c k => by
    by_cases hj : j ∈ vs
    · rw [unwipe_in hl hj] at k
      exact .inl ⟨hj, k⟩
    · rw [unwipe_out hj] at k
      exact .inr ⟨hj, k⟩
  -- an own thing of a wiped slot is no own thing of the block
  have no : ∀ (j : Nat) (d : D) (p : Addr), j ∈ vs → e0[j]? = some (some (.own d)) → σ[j]? = some (some (.ref p)) → ¬ Own (L2.wipe σ vs) (wipeE e0 vs) p := fun j d p hj h1 h2 ⟨i, d', k1, k2⟩ => by
    obtain ⟨n1, m1⟩ := wipeE_get k1
    obtain ⟨_, m2⟩ := wipe_in k2
    exact n1 (R1.inj j i d d' _ h1 m1 h2 m2 ▸ hj)
  refine ⟨⟨?_, R.tup, fun j c k => ?_, fun i j d1 d2 v k1 k2 k3 k4 => ?_⟩, ⟨fun a o h n => F.keep a o h fun z => n (sub a z), fun p ⟨j, d, k1, k2⟩ => ?_, F.dom⟩⟩
  · rw [unwipe_length, hl]
    exact R1.len
  · rcases inE j c k with ⟨hj, q⟩ | ⟨hj, q⟩
    · obtain ⟨v, e1, c1⟩ := R1.cell j c q
      refine ⟨v, e1, ?_⟩
      cases c with
      | dat d => exact RepD.mono st R1.tup d v c1
      | exc y => exact CellOk.exc_mono st R1.tup c1
      | own d =>
        obtain ⟨p, rfl, a1, t1⟩ := c1
        obtain ⟨o, eo, _⟩ := R1.tup p a1
        have nn := no j d p hj q e1
        exact ⟨p, rfl, (F.keep p o eo nn).2.mpr a1, t1.mono st R1.tup fun o' z => (F.keep p o' z nn).1⟩
    · obtain ⟨v, e1, c1⟩ := R.cell j c q
      rw [wipe_get hj] at e1
      exact ⟨v, e1, c1⟩
  · have mix : ∀ (i j : Nat) (d1 d2 : D) (v : V), i ∈ vs → e0[i]? = some (some (.own d1)) → j ∉ vs → e[j]? = some (some (.own d2)) → σ[i]? = some (some v) → σ[j]? = some (some v) → False := fun i j d1 d2 v hi h1 hj h2 h3 h4 => by
      obtain ⟨v', e1, p, rfl, a1, t1⟩ := R1.cell i _ h1
      rw [h3] at e1
      cases e1
      rcases F.own p ⟨j, d2, h2, by rw [wipe_get hj]; exact h4⟩ with z | z
      · exact no i d1 p hi h1 h3 z
      · obtain ⟨o, eo, _⟩ := R1.tup p a1
        rw [eo] at z
        cases z
    rcases inE i _ k1 with ⟨hi, q1⟩ | ⟨hi, q1⟩ <;> rcases inE j _ k2 with ⟨hj, q2⟩ | ⟨hj, q2⟩
    · exact R1.inj i j d1 d2 v q1 q2 k3 k4
    · exact (mix i j d1 d2 v hi q1 hj q2 k3 k4).elim
    · exact (mix j i d2 d1 v hj q2 hi q1 k4 k3).elim
    · exact R.inj i j d1 d2 v q1 q2 (by rw [wipe_get hi]; exact k3) (by rw [wipe_get hj]; exact k4)
  · rcases inE j _ k1 with ⟨hj, q1⟩ | ⟨hj, q1⟩
    · exact .inl ⟨j, d, q1, k2⟩
    · rcases F.own p ⟨j, d, q1, by rw [wipe_get hj]; exact k2⟩ with z | z
      · exact .inl (sub p z)
      · exact .inr z

abbrev W0 : WX := fun _ _ _ _ => False
theorem lc_ok {vs fx : List Nat} {g : GF} {t : TF} {f : UF} {σ : L2.St} {Q : VK} {J : It} {A1 : Hid} {H1 : Hp} {e1 : Env} {ds : List D} {acc : List D} {e2 : Env} (hfx : ∀ j, j < σ.length → j ∉ vs → j ∈ fx) (R1 : Rep G A1 σ H1 e1) (ij : ItOk G J A1 H1 ds) (hc : compG vs g t f ds [] (wipeE e1 vs) = some (.ok acc e2)) (hl : e2.length = e1.length)
    (q : ∀ A' H' v, Rep G A' σ H' (unwipe e1 e2 vs) → Fr (Own σ e1) A1 H1 (Own σ (unwipe e1 e2 vs)) A' H' → OutOk G H1 A' σ H' (unwipe e1 e2 vs) (.fresh (.lst acc)) v → Q v H') (D : Addr) (hD : H1 D = none) :
    ∃ W : Nat → Nat → Hp → Prop, (∃ m, W 0 m (upd H1 D (.lst []))) ∧ ∀ i m H, W i m H → (J.stop i H ∧ Q (.ref D) H) ∨ (J.go i H ∧ ∃ Nx : Hp → Prop, (∀ H', Nx H' → ∃ m', m' < m ∧ W (i + 1) m' H') ∧
      ∀ x H', J.yld i H x H' → tEvG G XR W0 fx g x (L2.wipe σ vs) H' fun σ2 H2 => L2.wipe σ2 vs = L2.wipe σ vs ∧ tEvT G XR W0 t σ2 H2 fun b H3 =>
        if b = true then tEvU G XR W0 f σ2 H3 fun y H4 => ∃ acc, H4 D = some (.lst acc) ∧ acc.length < sizeLine ∧ Nx (upd H4 D (.lst (acc ++ [y]))) else Nx H3) := by
  obtain ⟨Rw, subw⟩ := R1.wipe vs
  let St := fun (H : Hp) (rest : List Tk.D) => ∃ (A : Hid) (env : Env) (a : List Tk.D) (av : List V), Rep G A (L2.wipe σ vs) H env ∧ Stab A1 H1 A H ∧ Fr (Own (L2.wipe σ vs) (wipeE e1 vs)) A1 H1 (Own (L2.wipe σ vs) env) A H ∧ A D ∧ H D = some (.lst av) ∧ RepDs G A H a av ∧ ¬ Own (L2.wipe σ vs) env D ∧ env.length = e1.length ∧
    compG vs g t f rest a env = some (.ok acc e2)
  refine ⟨fun i m H => i ≤ ds.length ∧ m = ds.length - i ∧ St H (ds.drop i), ⟨_, Nat.zero_le _, rfl, ?_⟩, ?_⟩
  · have ex := Ext.newLst Rw.tup hD []
    refine ⟨_, wipeE e1 vs, [], [], ex.rep Rw, ex.stab, ex.fr _, .inr rfl, upd_same, .nil, fun z => ?_, wipeE_length _ _, hc⟩
    obtain ⟨o, eo⟩ := Rw.own_some z
    rw [hD] at eo
    cases eo
  · rintro i m H ⟨hi, rfl, A, env, a, av, R, s, F, aD, hDv, ra, nD, le, hcomp⟩
    obtain ⟨turn, stop⟩ := ij A H R.tup s
    by_cases hlt : i < ds.length
    · have ed : ds.drop i = ds[i] :: ds.drop (i + 1) := List.drop_eq_getElem_cons hlt
      rw [ed] at hcomp
      obtain ⟨go, yl⟩ := turn i ds[i] (List.getElem?_eq_getElem hlt)
      refine .inr ⟨go, fun H' => St H' (ds.drop (i + 1)), fun H' h => ⟨ds.length - (i + 1), by omega, hlt, rfl, h⟩, fun x H' y => ?_⟩
      obtain ⟨ex, rd⟩ := yl x H' y
      have R' := ex.rep R
      have F' : Fr (Own (L2.wipe σ vs) (wipeE e1 vs)) A1 H1 (Own (L2.wipe σ vs) env) A H' := F.trans (ex.fr _)
      have hD' := (ex.same D _ hDv).1
      have ra' := RepDs.mono ex.stab R.tup _ _ ra
      unfold compG at hcomp
      obtain ⟨_, eg, hg, hcomp⟩ := bd_eq_ok hcomp
      split at hcomp
      · rename_i hlen
        obtain ⟨b, et, ht, hcomp⟩ := bd_eq_ok hcomp
        refine ⟨A, env, ds[i], R', rd, ?_⟩
        rw [hg]
        intro σ2 A2 H2 R2 K2 F2
        have hs2 : σ2.length = σ.length := by
          rw [← R2.len, hlen, le, R1.len]
        have hw : L2.wipe σ2 vs = L2.wipe σ vs := wipe_back hs2 hfx K2
        refine ⟨hw, A2, eg, R2, ?_⟩
        rw [ht]
        intro A3 H3 R3 F3
        -- the new list through the block
        have F23 := F2.trans F3
        have k3 := F23.keep D _ hD' nD
        have n3 : ¬ Own σ2 et D := fun z => by
          rcases F23.own D z with w | w
          · exact nD w
          · rw [hD'] at w
            cases w
        have st3 : Stab A H' A3 H3 := F23.stab fun p q => R'.own_hid q
        have ra3 := RepDs.mono st3 R'.tup _ _ ra'
        have fin : ∀ {A4 : Hid} {H4 : Hp} {e4 : Env} {a4 : List Tk.D} {av4 : List V}, Rep G A4 σ2 H4 e4 → Fr (Own (L2.wipe σ vs) (wipeE e1 vs)) A1 H1 (Own σ2 e4) A4 H4 → A4 D → H4 D = some (.lst av4) → RepDs G A4 H4 a4 av4 → ¬ Own σ2 e4 D → e4.length = e1.length →
            compG vs g t f (ds.drop (i + 1)) a4 (wipeE e4 vs) = some (.ok acc e2) → St H4 (ds.drop (i + 1)) := by
          intro A4 H4 e4 a4 av4 R4 F4 aD4 hD4 ra4 n4 l4 hcomp4
          obtain ⟨Rw4, sub4⟩ := R4.wipe vs
          rw [hw] at Rw4 sub4
          exact ⟨A4, wipeE e4 vs, a4, av4, Rw4, F4.stab (fun p q => R1.own_hid (subw p q)), F4.less fun q z => .inl (sub4 q z), aD4, hD4, ra4, fun z => n4 (sub4 D z), by rw [wipeE_length]; exact l4, hcomp4⟩
        have le3 : et.length = e1.length := by
          rw [R3.len, hs2, ← R1.len]
        cases b with
        | false => exact fin R3 (F'.trans F23) (k3.2.mpr aD) k3.1 ra3 n3 le3 hcomp
        | true =>
          rw [if_pos rfl] at hcomp
          dsimp only
          rw [if_pos rfl]
          obtain ⟨y, ef, hf, hcomp⟩ := bd_eq_ok hcomp
          split at hcomp
          · rename_i hz
            refine ⟨A3, et, R3, ?_⟩
            rw [hf]
            intro A4 H4 R4 F4 v rv
            have k4 := F4.keep D _ k3.1 n3
            have n4 : ¬ Own σ2 ef D := fun z => by
              rcases F4.own D z with w | w
              · exact n3 w
              · rw [k3.1] at w
                cases w
            have st4 : Stab A3 H3 A4 H4 := F4.stab fun p q => R3.own_hid q
            have ra4 := RepDs.mono st4 R3.tup _ _ ra3
            have aD4 : A4 D := k4.2.mpr (k3.2.mpr aD)
            refine ⟨av, k4.1, by rw [← ra.length]; exact szOk.lt hz, ?_⟩
            have ex4 := ExtBut.lst R4.tup aD4 (av ++ [v])
            have st5 := ex4.stab aD4
            obtain ⟨R5, F5⟩ := R4.butTop (F'.trans (F23.trans F4)) aD4 n4 hD ex4 ⟨_, upd_same⟩
            refine fin R5 F5 aD4 upd_same (RepDs.mono st5 R4.tup _ _ (ra4.append (.cons rv .nil))) n4 ?_ hcomp
            rw [R4.len, hs2, ← R1.len]
          · cases hcomp
      · cases hcomp
    · have hn : i = ds.length := by omega
      subst hn
      rw [List.drop_length] at hcomp
      cases hcomp
      refine .inl ⟨stop, ?_⟩
      obtain ⟨R9, F9⟩ := unwipe_ok R1 R hl F
      refine q A H (.ref D) R9 F9 ⟨D, rfl, hD, aD, fun z => ?_, av, hDv, ra⟩
      rcases F9.own D z with w | w
      · obtain ⟨o, eo⟩ := R1.own_some w
        rw [hD] at eo
        cases eo
      · -- not own: D came behind H1
        obtain ⟨j, d, k1, k2⟩ := z
        by_cases hj : j ∈ vs
        · rw [unwipe_in hl hj] at k1
          obtain ⟨o, eo⟩ := R1.own_some ⟨j, d, k1, k2⟩
          rw [hD] at eo
          cases eo
        · rw [unwipe_out hj] at k1
          exact nD ⟨j, d, k1, by rw [wipe_get hj]; exact k2⟩

theorem lc_use {it : AF} {vs fx : List Nat} {g : GF} {t : TF} {f : UF} {N : Nat} (hfx : ∀ j, j < N → j ∉ vs → j ∈ fx) {σ : L2.St} (hN : σ.length = N) {H : Hp} {Q : VK} (h : tEv G XR W (cLc it vs g t f) σ H Q) :
    tLc (tEvI G XR W it) (tEvG G XR W0 fx g) (tEvT G XR W0 t) (tEvU G XR W0 f) vs σ H Q := by
  obtain ⟨A, env, R, p⟩ := h
  refine ⟨A, env, R, ?_⟩
  unfold cLc at p
  cases hi : it env with
  | none =>
    rw [hi] at p
    exact p
  | some r =>
    rw [hi] at p
    cases r with
    | ex x e1 => exact p
    | ok ds e1 =>
      intro A1 H1 R1 F1 J ij D hD
      rw [bd_ok] at p
      unfold lcK at p
      split at p
      · rename_i acc e2 hc
        split at p
        · rename_i hl
          exact lc_ok (by rw [hN]; exact hfx) R1 ij hc hl (fun A' H' v R' F' ok => p A' H' R' (F1.trans F') v (ok.base fun q h => F1.none h)) D hD
        · exact p.elim
      · exact p.elim
end
end Tk
/-! Tk7: comprehensions as expressions, item stores, operations on data. -/
namespace Tk
open PySem PySem.Spec PyProof.Rows L2

section
variable {G : Tb} {XR : XW} {W : WX} {X : Cx}

/-! ### comprehensions -/
def tYesF : TF := fun env => some (.ok true env)
theorem PTs_imp {X : Cx} {e : List Expr} {t t' : TT} (h : PTs X e t) (i : ∀ σ H Q, t' σ H Q → t σ H Q) : PTs X e t' := ⟨fun pins s σ H Q I q => h.run pins s σ H Q I (i σ H Q q)⟩
theorem ets_nil : PTs X [] (tEvT G XR W tYesF) := PTs_imp pts_nil fun σ H Q ⟨A, env, R, p⟩ => p A H R (Fr.refl _ _ _)
section
variable {elt tg iter : Expr} {ifs : List Expr} {scope : Scope} {own : List (Str × Nat)} {pos : Pos} {it : AF} {g : GF} {t : TF} {f : EF} {fx fb : List Nat}
theorem ev_lc (hc : X.calm = true) (hN : X.N.Nodup) (hi : PI X tg iter (tEvI G XR W it)) (ok : BlkOk X.N X.env.scope scope own)
    (hg : ∀ (s : Shared) (H : Hp) (C : Addr) (cl : List (Str × Addr)) (fp : List Addr), PG (X.blk s H scope (compEnvC scope cl C X.env) fp) tg (tEvG G XR W0 fb g))
    (ht : ∀ (s : Shared) (H : Hp) (C : Addr) (cl : List (Str × Addr)) (fp : List Addr), PTs (X.blk s H scope (compEnvC scope cl C X.env) fp) ifs (tEvT G XR W0 t))
    (he : ∀ (s : Shared) (H : Hp) (C : Addr) (cl : List (Str × Addr)) (fp : List Addr), PE (X.blk s H scope (compEnvC scope cl C X.env) fp) elt (tEv G XR W0 f))
    (hfx : ∀ j, j < X.N.length → j ∉ own.map (·.2) → j ∈ fb) (hs : ∀ x, foldedSetIterable iter X.env x = pure x := by intro _; rfl) :
    PE X (.ListComp elt [⟨tg, iter, ifs, 0⟩] scope pos) (tEv G XR W (cLc it (own.map (·.2)) g t (cUse f))) :=
  ⟨fun pins s σ H Q I q => (pe_lc hc hN hi ok hg ht (fun s H C cl fp => ev_use (he s H C cl fp)) hs).run pins s σ H Q I (lc_use hfx I.len q)⟩
end

/-! ### x[k] = value, x an own list -/
def gIx (i : Nat) (f : EF) : GF := fun d env => match ownAt env i with
  | some _ => bd (f env) fun o e => match ownAt e i, peek e o with
    | some (.lst l), some (.int k) => match ixN l.length k with
      | some j => some (.ok () (e.set i (some (.own (.lst (l.set j d))))))
      | none => none
    | _, _ => none
  | none => none
theorem eg_sub {o ix : Expr} {pos : Pos} {i : Nat} {f : EF} {fx : List Nat} (ho : PE X o (tVar i)) (hi : PE X ix (tEv G XR W f)) (ha : ∀ v, assign (.Subscript o ix pos) X.env v = (do
      let ov ← holding [v] (eval o X.env)
      let iv ← holding [v, ov] (eval ix X.env)
      standAt pos
      holding [v, ov, iv] (setItem ov iv v)
      release [v, ov, iv] []) := by intro _; rfl) : PG X (.Subscript o ix pos) (tEvG G XR W fx (gIx i f)) := PG_imp (pg_sub ho hi set_list ha) fun v σ H Q ⟨A, env, d, R, rd, p⟩ => by
  unfold gIx at p
  split at p
  · rename_i d0 h0
    obtain ⟨v0, e0, q, e1, _⟩ := R.cell i _ (ownAt_eq h0)
    subst e1
    refine ⟨_, e0, ?_⟩
    refine ⟨A, env, R, ?_⟩
    cases hf : f env with
    | none =>
      rw [hf] at p
      exact p
    | some r =>
      rw [hf] at p
      cases r with
      | ex x e1 => exact fun A1 H1 c d R1 F1 xr => p σ A1 H1 c d R1 (Keep.refl _ _) F1 xr
      | ok o1 e1 =>
        intro A1 H1 R1 F1 x ok
        rw [bd_ok] at p
        have rd1 := RepD.mono (F1.stab fun p q => R.own_hid q) R.tup _ _ rd
        split at p
        · rename_i l k h1 h2
          have h1 := ownAt_eq h1
          obtain ⟨v, e2, q', e3, a3, vs, hp, rl⟩ := R1.cell i _ h1
          rw [e0] at e2
          cases e2
          cases e3
          split at p
          · rename_i j hj
            have ek : x = .int k := by
              rcases peek_ok R1 ok h2 with z | ⟨_, _, _, z⟩
              · exact int_of z
              · exact z.elim
            rw [rl.length] at hj
            refine ⟨q, vs, k, j, rfl, ek, hp, hj, ?_⟩
            have ex := ExtBut.lst R1.tup a3 (vs.set j v)
            have st := ex.stab a3
            obtain ⟨R2, F2⟩ := R1.setTop h1 e0 ex (d' := .lst (l.set j d)) ⟨_, upd_same, RepDs.mono st R1.tup _ _ (RepDs.set rd1 j rl)⟩
            exact p σ A1 _ R2 (Keep.refl _ _) (F1.trans F2)
          · exact p.elim
        · exact p.elim
  · exact p.elim

theorem rep_int {A : Hid} {H : Hp} {i : Int} : RepD G A H (.int i) (.int i) := by unfold RepD; rfl
theorem rep_bl {A : Hid} {H : Hp} {i : Bool} : RepD G A H (.bl i) (.bl i) := by unfold RepD; rfl
theorem rep_str {A : Hid} {H : Hp} {i : Str} : RepD G A H (.str i) (.str i) := by unfold RepD; rfl
theorem rvI {H0 : Hp} {A : Hid} {H : Hp} {i : Int} : RvOk G H0 A H (.dat (.int i)) (.int i) := rep_int (G := G) (A := A) (H := H)
theorem rvB {H0 : Hp} {A : Hid} {H : Hp} {i : Bool} : RvOk G H0 A H (.dat (.bl i)) (.bl i) := rep_bl (G := G) (A := A) (H := H)
theorem rvS {H0 : Hp} {A : Hid} {H : Hp} {i : Str} : RvOk G H0 A H (.dat (.str i)) (.str i) := rep_str (G := G) (A := A) (H := H)
theorem t_int {A : Hid} {H : Hp} {i : Int} {x : V} (h : RepT G A H (.int i) x) : x = .int i := by
  rcases h with z | ⟨_, _, _, z⟩
  · exact int_of z
  · exact z.elim
theorem t_bl {A : Hid} {H : Hp} {i : Bool} {x : V} (h : RepT G A H (.bl i) x) : x = .bl i := bl_of h
theorem t_str {A : Hid} {H : Hp} {i : Str} {x : V} (h : RepT G A H (.str i) x) : x = .str i := by
  rcases h with z | ⟨_, _, _, z⟩
  · unfold RepD at z
    exact z
  · exact z.elim
theorem t_tupF {A : Hid} {H : Hp} {l : List D} {x : V} (h : RepT G A H (.tup l) x) : ∃ a vs, x = .ref a ∧ SqF G.K H a vs ∧ RepDs G A H l vs := by
  rcases h with h | ⟨p, _, _, h⟩
  · unfold RepD at h
    exact h
  · exact h.elim
theorem t_tup {A : Hid} {H : Hp} {l : List D} {x : V} (h : RepT G A H (.tup l) x) : ∃ a vs, x = .ref a ∧ SqT G.K H a vs ∧ RepDs G A H l vs := by
  obtain ⟨a, vs, e, s, r⟩ := t_tupF h
  exact ⟨a, vs, e, s.t, r⟩
theorem t_lst {A : Hid} {H : Hp} {l : List D} {x : V} (h : RepT G A H (.lst l) x) : ∃ a vs, x = .ref a ∧ H a = some (.lst vs) ∧ RepDs G A H l vs := by
  rcases h with z | ⟨p, e, _, vs, hp, r⟩
  · unfold RepD at z
    obtain ⟨a, vs, e, s, r⟩ := z
    exact ⟨a, vs, e, s.2, r⟩
  · exact ⟨p, vs, e, hp, r⟩
theorem t_scr {A : Hid} {H : Hp} {l : List Int} {x : V} (h : RepT G A H (.scr l) x) : ∃ a, x = .ref a ∧ SqL G.K H a (l.map V.int) := by
  rcases h with z | ⟨_, _, _, z⟩
  · unfold RepD at z
    obtain ⟨a, e, s⟩ := z
    exact ⟨a, e, s.sq⟩
  · exact z.elim

/-- ints: what a rule asks of them, what comes -/
def fII (c : Int → Int → Bool) (f : Int → Int → D) : D → D → Option RV
  | .int i, .int j => if c i j = true then some (.dat (f i j)) else none
  | _, _ => none
theorem o_ii {C : Int → Int → Prop} {g : Int → Int → V} {c : Int → Int → Bool} {f : Int → Int → D} (hc : ∀ i j, c i j = true → C i j) (hf : ∀ A H i j, RepD G A H (f i j) (g i j)) : Op2 G (rI C g) (fII c f) := fun d d' rv A H x y Q e t h1 h2 q => by
  cases d <;> cases d' <;> try (cases e; done)
  rename_i i j
  have e : (if c i j = true then some (RV.dat (f i j)) else none) = some rv := e
  split at e
  · rename_i hcc
    cases e
    exact ⟨i, j, t_int h1, t_int h2, hc i j hcc, q _ A H (Ext.refl t) (hf A H i j)⟩
  · cases e
def fII0 (f : Int → Int → D) : D → D → Option RV
  | .int i, .int j => some (.dat (f i j))
  | _, _ => none
theorem o_ii0 {g : Int → Int → V} {f : Int → Int → D} (hf : ∀ A H i j, RepD G A H (f i j) (g i j)) : Op2 G (rI0 g) (fII0 f) := fun d d' rv A H x y Q e t h1 h2 q => by
  cases d <;> cases d' <;> try (cases e; done)
  rename_i i j
  have e : some (RV.dat (f i j)) = some rv := e
  cases e
  exact ⟨i, j, t_int h1, t_int h2, q _ A H (Ext.refl t) (hf A H i j)⟩
abbrev fSub := fII0 fun i j => .int (i - j)
theorem o_sub : Op2 G (rI0 fun i j => .int (i - j)) fSub := o_ii0 fun _ _ _ _ => rep_int
def mulOk (i j : Int) : Bool := decide (i.natAbs < 2 ^ 4000) && decide (j.natAbs < 2 ^ 4000)
abbrev fMul := fII mulOk fun i j => .int (i * j)
theorem log2_lt_pow {n k : Nat} (h0 : 0 < k) (h : n < 2 ^ k) : n.log2 < k := by
  by_cases hn : n = 0
  · subst hn
    simpa using h0
  · exact (Nat.log2_lt hn).mpr h
theorem o_mul : Op2 G (rI CMulW fun i j => .int (i * j)) fMul := o_ii (fun i j h => by
  unfold mulOk at h
  rw [Bool.and_eq_true] at h
  have h1 := log2_lt_pow (by decide) (of_decide_eq_true h.1)
  have h2 := log2_lt_pow (by decide) (of_decide_eq_true h.2)
  show i.natAbs.log2 + j.natAbs.log2 < 1000000
  omega) fun _ _ _ _ => rep_int
def divOk (_ j : Int) : Bool := decide (0 < j) && decide (j.natAbs < 2 ^ 4000)
theorem divOk.ok {i j : Int} (h : divOk i j = true) : 0 < j ∧ j.natAbs.log2 < 9000 := by
  unfold divOk at h
  rw [Bool.and_eq_true] at h
  have h2 := log2_lt_pow (by decide) (of_decide_eq_true h.2)
  exact ⟨of_decide_eq_true h.1, by omega⟩
abbrev fDiv := fII divOk fun i j => .int (i / j)
theorem o_div : Op2 G (rI CDivW fun i j => .int (i / j)) fDiv := o_ii (fun i j h => divOk.ok h) fun _ _ _ _ => rep_int
abbrev fMod := fII (fun _ j => decide (0 < j)) fun i j => .int (i % j)
theorem o_mod : Op2 G (rI (fun _ j => 0 < j) fun i j => .int (i % j)) fMod := o_ii (fun i j h => of_decide_eq_true h) fun _ _ _ _ => rep_int
def powOk (i j : Int) : Bool := decide (0 ≤ j) && decide (j ≤ 1000) && decide (i.natAbs < 1000)
abbrev fPow := fII powOk fun i j => .int (i ^ j.toNat)
theorem o_pow : Op2 G (rI CPow fun i j => .int (i ^ j.toNat)) fPow := o_ii (fun i j h => by
  unfold powOk at h
  rw [Bool.and_eq_true, Bool.and_eq_true] at h
  have h1 := of_decide_eq_true h.1.1
  have h2 := of_decide_eq_true h.1.2
  have h3 := of_decide_eq_true h.2
  refine ⟨h1, by omega, Nat.lt_trans h3 (by decide)⟩) fun _ _ _ _ => rep_int
def fNeg : D → Option RV
  | .int i => some (.dat (.int (-i)))
  | _ => none
abbrev fLt := fII0 fun i j => .bl (decide (i < j))
abbrev fLe := fII0 fun i j => .bl (decide (i ≤ j))
abbrev fGt := fII0 fun i j => .bl (decide (j < i))
abbrev fGe := fII0 fun i j => .bl (decide (j ≤ i))
theorem o_lt : Op2 G (rI0 fun i j => .bl (decide (i < j))) fLt := o_ii0 fun _ _ _ _ => rep_bl
theorem o_gt : Op2 G (rI0 fun i j => .bl (decide (j < i))) fGt := o_ii0 fun _ _ _ _ => rep_bl
/-! + : ints, texts, tuples, lists -/
def fAdd : D → D → Option RV
  | .int i, .int j => some (.dat (.int (i + j)))
  | .str a, .str b => if szOk (a.length + b.length) = true then some (.dat (.str (a ++ b))) else none
  | .tup a, .tup b => if szOk (a.length + b.length) = true then some (.dat (.tup (a ++ b))) else none
  | .lst a, .lst b => if szOk (a.length + b.length) = true then some (.fresh (.lst (a ++ b))) else none
  | _, _ => none
def rAddAll (K : PySem.W.Frag) : R2 := fun x y H Q => (∃ i j, x = .int i ∧ y = .int j ∧ Q (.int (i + j)) H) ∨ (∃ i j, x = .str i ∧ y = .str j ∧ i.length + j.length ≤ sizeLine ∧ Q (.str (i ++ j)) H) ∨ rCatF K x y H Q ∨ rCat x y H Q
theorem op_addAll : OpR X (binaryOp .Add) (rAddAll X.K) := op_add.or (op_add_str.or (op_catF.or op_cat))
theorem o_add : Op2 G (rAddAll G.K) fAdd := fun d d' rv A H x y Q e t h1 h2 q => by
  cases d <;> cases d' <;> try (cases e; done)
  · cases e
    exact .inl ⟨_, _, t_int h1, t_int h2, q _ A H (Ext.refl t) rvI⟩
  · rename_i a b
    have e : (if szOk (a.length + b.length) = true then some (RV.dat (.str (a ++ b))) else none) = some rv := e
    split at e
    · rename_i hz
      cases e
      exact .inr (.inl ⟨_, _, t_str h1, t_str h2, szOk.le hz, q _ A H (Ext.refl t) rvS⟩)
    · cases e
  · rename_i a b
    have e : (if szOk (a.length + b.length) = true then some (RV.dat (.tup (a ++ b))) else none) = some rv := e
    split at e
    · rename_i hz
      cases e
      obtain ⟨p1, v1, e1, s1, r1⟩ := t_tupF h1
      obtain ⟨p2, v2, e2, s2, r2⟩ := t_tupF h2
      refine .inr (.inr (.inl ⟨p1, p2, v1, v2, e1, e2, s1.t, s2.t, by rw [← r1.length, ← r2.length]; exact szOk.le hz, fun z => ?_, fun z z2 => ?_, fun z z2 p o hp hd => ?_⟩))
      · subst z
        have z0 : a = [] := List.eq_nil_of_length_eq_zero r1.length
        subst z0
        refine q _ A H (Ext.refl t) ?_
        show RepD G A H (.tup b) (.ref p2)
        unfold RepD
        exact ⟨p2, v2, rfl, s2, r2⟩
      · subst z2
        have z0 : b = [] := List.eq_nil_of_length_eq_zero r2.length
        subst z0
        refine q _ A H (Ext.refl t) ?_
        show RepD G A H (.tup (a ++ [])) (.ref p1)
        rw [List.append_nil]
        unfold RepD
        exact ⟨p1, v1, rfl, s1, r1⟩
      · exact q _ A _ (Ext.newTup t hp _) (rv_tup t (r1.append r2) hp hd)
    · cases e
  · rename_i a b
    have e : (if szOk (a.length + b.length) = true then some (RV.fresh (.lst (a ++ b))) else none) = some rv := e
    split at e
    · rename_i hz
      cases e
      obtain ⟨p1, v1, e1, s1, r1⟩ := t_lst h1
      obtain ⟨p2, v2, e2, s2, r2⟩ := t_lst h2
      exact .inr (.inr (.inr ⟨p1, p2, v1, v2, e1, e2, s1, s2, by rw [← r1.length, ← r2.length]; exact szOk.le hz, fun p hp => q _ _ _ (Ext.newLst t hp _) (rv_lst t (r1.append r2) hp)⟩))
    · cases e

/-! == and != of plain data -/
mutual
def toPy : D → Option PyData
  | .non => some .none
  | .bl b => some (.bool b)
  | .int i => some (.int i)
  | .str x => some (.str x)
  | .tup l => (toPys l).map .tuple
  | .lst l => (toPys l).map .list
  | _ => none
def toPys : List D → Option (List PyData)
  | [] => some []
  | d :: ds => match toPy d, toPys ds with
    | some p, some ps => some (p :: ps)
    | _, _ => none
end
mutual
theorem dp_of {A : Hid} {H : Hp} : ∀ (d : D) (p : PyData) (v : V), toPy d = some p → RepD G A H d v → Dp G.K H v p
  | .non, _, _, e, h => by
    unfold toPy at e
    unfold RepD at h
    cases e
    subst h
    exact .non
  | .bl _, _, _, e, h => by
    unfold toPy at e
    unfold RepD at h
    cases e
    subst h
    exact .bl _
  | .int _, _, _, e, h => by
    unfold toPy at e
    unfold RepD at h
    cases e
    subst h
    exact .int _
  | .str _, _, _, e, h => by
    unfold toPy at e
    unfold RepD at h
    cases e
    subst h
    exact .str _
  | .tup l, p, _, e, h => by
    unfold toPy at e
    unfold RepD at h
    obtain ⟨a, vs, rfl, s, r⟩ := h
    cases hp : toPys l with
    | none =>
      rw [hp] at e
      cases e
    | some ps =>
      rw [hp] at e
      cases e
      exact .tup s.t (dps_of l ps vs hp r)
  | .lst l, p, _, e, h => by
    unfold toPy at e
    unfold RepD at h
    obtain ⟨a, vs, rfl, s, r⟩ := h
    cases hp : toPys l with
    | none =>
      rw [hp] at e
      cases e
    | some ps =>
      rw [hp] at e
      cases e
      exact .lst s.sq (dps_of l ps vs hp r)
  | .dct _ _, _, _, e, _ => by unfold toPy at e; cases e
  | .obj _ _, _, _, e, _ => by unfold toPy at e; cases e
  | .exv _ _, _, _, e, _ => by unfold toPy at e; cases e
  | .fn _, _, _, e, _ => by unfold toPy at e; cases e
  | .scr _, _, _, e, _ => by unfold toPy at e; cases e
theorem dps_of {A : Hid} {H : Hp} : ∀ (l : List D) (ps : List PyData) (vs : List V), toPys l = some ps → RepDs G A H l vs → DpAll G.K H vs ps
  | [], _, _, e, h => by
    unfold toPys at e
    cases e
    obtain rfl := h.inv0
    exact .nil
  | d :: ds, ps, _, e, h => by
    unfold toPys at e
    obtain ⟨v, r, rfl, h1, h2⟩ := h.inv
    cases hd : toPy d with
    | none =>
      rw [hd] at e
      cases e
    | some p =>
      cases hs : toPys ds with
      | none =>
        rw [hd, hs] at e
        cases e
      | some q =>
        rw [hd, hs] at e
        cases e
        exact .cons (dp_of d p v hd h1) (dps_of ds q r hs h2)
end
theorem dp_t {A : Hid} {H : Hp} {d : D} {p : PyData} {v : V} (e : toPy d = some p) (h : RepT G A H d v) : Dp G.K H v p := by
  rcases h with h | ⟨a, rfl, _, h⟩
  · exact dp_of d p v e h
  · cases d with
    | lst l =>
      unfold toPy at e
      obtain ⟨vs, hp, r⟩ := h
      cases hq : toPys l with
      | none =>
        rw [hq] at e
        cases e
      | some ps =>
        rw [hq] at e
        cases e
        exact .lst (SqL.of hp) (dps_of l ps vs hq r)
    | dct _ _ => unfold toPy at e; cases e
    | obj _ _ => unfold toPy at e; cases e
    | _ => exact h.elim
def eqP (neg : Bool) (d e : D) : Option RV := match toPy d, toPy e with
  | some p, some q => if SeqAt.shaped p = true ∧ SeqAt.shaped q = true then some (.dat (.bl (neg ^^ PyData.eqv p q))) else none
  | _, _ => none
def twoS : D → D → Option (Str × Str)
  | .str x, .str y => some (x, y)
  | _, _ => none
theorem twoS_of {d e : D} {x y : Str} (h : twoS d e = some (x, y)) : d = .str x ∧ e = .str y := by
  unfold twoS at h
  split at h
  · cases h
    exact ⟨rfl, rfl⟩
  · cases h
def eqF (neg : Bool) (d e : D) : Option RV := match twoS d e with
  | some (x, y) => some (.dat (.bl (neg ^^ decide (x = y))))
  | none => eqP neg d e
def rEqT (K : PySem.W.Frag) : R2 := fun x y H Q => rEq x y H Q ∨ rEqD K x y H Q
def rNeT (K : PySem.W.Frag) : R2 := fun x y H Q => rNe x y H Q ∨ rNeD K x y H Q
theorem op_eqT (hu : X.A.units + 64 < cLine) : OpR X (compareOp .Eq) (rEqT X.K) := op_eq.or (op_eqD hu)
theorem op_neT (hu : X.A.units + 64 < cLine) : OpR X (compareOp .NotEq) (rNeT X.K) := op_ne.or (op_neD hu)
theorem strV {A : Hid} {H : Hp} {x : Str} {v : V} (h : RepT G A H (.str x) v) : v = .str x := by
  rcases h with h | ⟨a, rfl, _, h⟩
  · exact h
  · exact h.elim
theorem o_eq : Op2 G (rEqT G.K) (eqF false) := fun d d' rv A H x y Q e t h1 h2 q => by
  unfold eqF at e
  split at e
  · rename_i sx sy hs
    obtain ⟨rfl, rfl⟩ := twoS_of hs
    cases strV h1
    cases strV h2
    cases e
    refine .inl ⟨rfl, q _ A H (Ext.refl t) ?_⟩
    rw [Bool.false_xor, show decide (V.str sx = V.str sy) = decide (sx = sy) from by by_cases hh : sx = sy <;> simp [hh]]
    exact rvB
  unfold eqP at e
  split at e
  · rename_i p1 p2 e1 e2
    split at e
    · rename_i hs
      cases e
      refine .inr ⟨p1, p2, dp_t e1 h1, dp_t e2 h2, hs.1, hs.2, q _ A H (Ext.refl t) ?_⟩
      rw [Bool.false_xor]
      exact rvB
    · cases e
  · cases e
theorem o_ne : Op2 G (rNeT G.K) (eqF true) := fun d d' rv A H x y Q e t h1 h2 q => by
  unfold eqF at e
  split at e
  · rename_i sx sy hs
    obtain ⟨rfl, rfl⟩ := twoS_of hs
    cases strV h1
    cases strV h2
    cases e
    refine .inl ⟨rfl, q _ A H (Ext.refl t) ?_⟩
    rw [Bool.true_xor, show decide (V.str sx = V.str sy) = decide (sx = sy) from by by_cases hh : sx = sy <;> simp [hh]]
    exact rvB
  unfold eqP at e
  split at e
  · rename_i p1 p2 e1 e2
    split at e
    · rename_i hs
      cases e
      refine .inr ⟨p1, p2, dp_t e1 h1, dp_t e2 h2, hs.1, hs.2, q _ A H (Ext.refl t) ?_⟩
      rw [Bool.true_xor]
      exact rvB
    · cases e
  · cases e
/-- is None, is not None -/
def isNon : D → Bool
  | .non => true
  | _ => false
def fIsN (neg : Bool) (d e : D) : Option RV := match e with
  | .non => some (.dat (.bl (neg ^^ isNon d)))
  | _ => none
/-! items, lengths, slices -/
def fIx : D → D → Option RV
  | .lst l, .int i => (atI l i).map .dat
  | .tup l, .int i => (atI l i).map .dat
  | .scr l, .int i => (atI l i).map fun n => .dat (.int n)
  | .str z, .int i => if szOk z.length = true then (atI z.cps.toList i).map fun c => .dat (.str ⟨#[c]⟩) else none
  | _, _ => none
theorem at_rep {A : Hid} {H : Hp} {l : List D} {vs : List V} {i : Int} {d : D} (r : RepDs G A H l vs) (h : atI l i = some d) : ∃ v, atI vs i = some v ∧ RepD G A H d v := by
  unfold atI at h ⊢
  rw [r.length] at h
  cases hj : ixN vs.length i with
  | none =>
    rw [hj] at h
    cases h
  | some j =>
    rw [hj] at h
    obtain ⟨v, e, k⟩ := r.get (show l[j]? = some d from h)
    exact ⟨v, e, k⟩
theorem at_map {α β : Type} {l : List α} {i : Int} {a : α} (f : α → β) (h : atI l i = some a) : atI (l.map f) i = some (f a) := by
  unfold atI at h ⊢
  rw [List.length_map]
  cases hj : ixN l.length i with
  | none =>
    rw [hj] at h
    cases h
  | some j =>
    rw [hj] at h
    show (l.map f)[j]? = some (f a)
    rw [List.getElem?_map, show l[j]? = some a from h]
    rfl
theorem o_ix : Op2 G (rIx G.K) fIx := fun d d' rv A H x y Q e t h1 h2 q => by
  cases d <;> cases d' <;> try (cases e; done)
  · rename_i z i
    have e : (if szOk z.length = true then (atI z.cps.toList i).map fun c => RV.dat (.str ⟨#[c]⟩) else none) = some rv := e
    split at e
    · rename_i hz
      cases hc : atI z.cps.toList i with
      | none =>
        rw [hc] at e
        cases e
      | some c =>
        rw [hc] at e
        cases e
        exact .inr (.inr ⟨z, i, c, t_str h1, t_int h2, szOk.le hz, hc, q _ A H (Ext.refl t) rvS⟩)
    · cases e
  · rename_i l i
    have e : (atI l i).map RV.dat = some rv := e
    cases hc : atI l i with
    | none =>
      rw [hc] at e
      cases e
    | some d =>
      rw [hc] at e
      cases e
      obtain ⟨a, vs, e1, s, r⟩ := t_tup h1
      obtain ⟨v, e2, k⟩ := at_rep r hc
      exact .inr (.inl ⟨a, vs, i, v, e1, t_int h2, s, e2, q _ A H (Ext.refl t) k⟩)
  · rename_i l i
    have e : (atI l i).map RV.dat = some rv := e
    cases hc : atI l i with
    | none =>
      rw [hc] at e
      cases e
    | some d =>
      rw [hc] at e
      cases e
      obtain ⟨a, vs, e1, s, r⟩ := t_lst h1
      obtain ⟨v, e2, k⟩ := at_rep r hc
      exact .inl ⟨a, vs, i, v, e1, t_int h2, SqL.of s, e2, q _ A H (Ext.refl t) k⟩
  · rename_i l i
    have e : ((atI l i).map fun n => RV.dat (.int n)) = some rv := e
    cases hc : atI l i with
    | none =>
      rw [hc] at e
      cases e
    | some d =>
      rw [hc] at e
      cases e
      obtain ⟨a, e1, s⟩ := t_scr h1
      exact .inl ⟨a, _, i, _, e1, t_int h2, s, at_map V.int hc, q _ A H (Ext.refl t) rvI⟩
def fLen : D → Option RV
  | .lst l => some (.dat (.int l.length))
  | .tup l => some (.dat (.int l.length))
  | .scr l => some (.dat (.int l.length))
  | .str z => if szOk z.length = true then some (.dat (.int z.length)) else none
  | _ => none
def rLenAll (K : PySem.W.Frag) : List V → Hp → VK → Prop := fun xs H Q => (∃ p ys, xs = [.ref p] ∧ (SqL K H p ys ∨ SqT K H p ys) ∧ Q (.int ys.length) H) ∨ ∃ z, xs = [.str z] ∧ z.length ≤ sizeLine ∧ Q (.int z.length) H
theorem call_lenAll : CallR X (.builtin "len") (rLenAll X.K) := call_len_seq.or call_len_str
theorem o_len : Cb1 G (rLenAll G.K) fLen := fun d rv A H x Q e t h q => by
  cases d <;> try (cases e; done)
  · rename_i z
    have e : (if szOk z.length = true then some (RV.dat (.int z.length)) else none) = some rv := e
    split at e
    · rename_i hz
      cases e
      exact .inr ⟨z, by rw [t_str h], szOk.le hz, q _ A H (Ext.refl t) rvI⟩
    · cases e
  · cases e
    obtain ⟨a, vs, e1, s, r⟩ := t_tup h
    subst e1
    refine .inl ⟨a, vs, rfl, .inr s, q _ A H (Ext.refl t) ?_⟩
    rw [← r.length]
    exact rvI
  · cases e
    obtain ⟨a, vs, e1, s, r⟩ := t_lst h
    subst e1
    refine .inl ⟨a, vs, rfl, .inl (SqL.of s), q _ A H (Ext.refl t) ?_⟩
    rw [← r.length]
    exact rvI
  · rename_i l
    cases e
    obtain ⟨a, e1, s⟩ := t_scr h
    subst e1
    refine .inl ⟨a, _, rfl, .inl s, q _ A H (Ext.refl t) ?_⟩
    rw [List.length_map]
    exact rvI
/-! built-ins of ints -/
def fAbs : D → Option RV
  | .int i => some (.dat (.int (if i < 0 then -i else i)))
  | _ => none
theorem o_abs : Cb1 G (fun xs H Q => ∃ i, xs = [.int i] ∧ Q (.int (if i < 0 then -i else i)) H) fAbs := fun d rv A H x Q e t h q => by
  cases d <;> try (cases e; done)
  cases e
  exact ⟨_, by rw [t_int h], q _ A H (Ext.refl t) rvI⟩
abbrev fMax := fII0 fun i j => .int (if j > i then j else i)
abbrev fMin := fII0 fun i j => .int (if j < i then j else i)
theorem o_max : Cb2 G (fun xs H Q => ∃ i j, xs = [.int i, .int j] ∧ Q (.int (if j > i then j else i)) H) fMax := fun d d' rv A H x y Q e t h1 h2 q => by
  cases d <;> cases d' <;> try (cases e; done)
  cases e
  exact ⟨_, _, by rw [t_int h1, t_int h2], q _ A H (Ext.refl t) rvI⟩
abbrev fDivmod := fII divOk fun i j => .tup [.int (i / j), .int (i % j)]
theorem o_divmod : Cb2 G rDivF fDivmod := fun d d' rv A H x y Q e t h1 h2 q => by
  cases d <;> cases d' <;> try (cases e; done)
  rename_i i j
  have e : (if divOk i j = true then some (RV.dat (.tup [.int (i / j), .int (i % j)])) else none) = some rv := e
  split at e
  · rename_i hz
    cases e
    have z := divOk.ok hz
    exact ⟨i, j, by rw [t_int h1, t_int h2], ⟨z.1, PyProof.noPylong_of_log2 z.2⟩, fun p o hp hd => q _ A _ (Ext.newTup t hp _) (rv_tup t (.cons rep_int (.cons rep_int .nil)) hp hd)⟩
  · cases e
def fInt : D → Option RV
  | .int i => some (.dat (.int i))
  | .bl b => some (.dat (.int (if b then 1 else 0)))
  | _ => none
theorem o_int : Cb1 G (fun xs H Q => (∃ i, xs = [.int i] ∧ Q (.int i) H) ∨ ∃ k, xs = [.bl k] ∧ Q (.int (if k then 1 else 0)) H) fInt := fun d rv A H x Q e t h q => by
  cases d <;> try (cases e; done)
  · cases e
    exact .inr ⟨_, by rw [t_bl h], q _ A H (Ext.refl t) rvI⟩
  · cases e
    exact .inl ⟨_, by rw [t_int h], q _ A H (Ext.refl t) rvI⟩
end
end Tk
/-! Tk8: slices, isinstance, repr; the end of a law. -/
namespace Tk
open PySem PySem.Spec PyProof.Rows L2

section
variable {G : Tb} {XR : XW} {W : WX} {X : Cx}

/-! ### slices -/
abbrev OF := Env → Option (Rs (Option Int))
variable (G XR W) in
def tEvO (f : OF) : TO := fun σ H Q => ∃ A env, Rep G A σ H env ∧ Post G XR W σ A H env (fun o _ _ H' => Q o H') (f env)
def oNone : OF := fun env => some (.ok none env)
def oSome (f : EF) : OF := fun env => bd (f env) fun o e => match peek e o with
  | some (.int i) => some (.ok (some i) e)
  | _ => none
theorem tEvO.imp {f : OF} {σ : L2.St} {H : Hp} {Q Q' : Option Int → Hp → Prop} (h : tEvO G XR W f σ H Q) (i : ∀ v H', Q v H' → Q' v H') : tEvO G XR W f σ H Q' := by
  obtain ⟨A, env, R, p⟩ := h
  exact ⟨A, env, R, Post.imp (Fr.refl _ _ _) (fun _ _ _ _ _ q => i _ _ q) p⟩
def cutG {α : Type} (xs : List α) (lo hi : Option Int) : List α := (xs.drop (HT.sIx xs.length 0 lo)).take (HT.sIx xs.length xs.length hi - HT.sIx xs.length 0 lo)
def fSl (d : D) (lo hi : Option Int) : Option RV := match d with
  | .lst l => some (.fresh (.lst (cutG l lo hi)))
  | .tup l => some (.dat (.tup (cutG l lo hi)))
  | .str z => if szOk z.length = true then some (.dat (.str (cutS z lo hi))) else none
  | _ => none
def rSlAll (K : PySem.W.Frag) : V → Option Int → Option Int → Hp → VK → Prop := fun x lo hi H Q => rSlL K x lo hi H Q ∨ rSlF K x lo hi H Q ∨ rSlS x lo hi H Q
def cSl (f : EF) (lo hi : OF) : EF := fun env => bd (f env) fun o e => bd (lo e) fun l e1 => bd (hi e1) fun h e2 => match peek e2 o with
  | some d => match fSl d l h with
    | some rv => some (.ok rv.out e2)
    | none => none
  | none => none
/-! ### isinstance with a built-in class -/
def tyName : D → Option String
  | .non => some "NoneType"
  | .bl _ => some "bool"
  | .int _ => some "int"
  | .str _ => some "str"
  | .tup _ => some "tuple"
  | .lst _ => some "list"
  | .dct _ _ => some "dict"
  | _ => none
def fIsi (T : String) (d : D) : Option RV := match tyName d with
  | some a => match kitB a T with
    | some b => some (.dat (.bl b))
    | none => none
  | none => none
/-! ### repr -/
def fRepr (d : D) : Option RV := match toPy d with
  | some p => if PyData.showable p = true ∧ SeqAt.shaped p = true ∧ szOk p.shown.length = true ∧ PyData.hasDict p = false then some (.dat (.str p.shown)) else none
  | none => none
def rRepr (K : PySem.W.Frag) : List V → Hp → VK → Prop := fun xs H Q => ∃ x p, xs = [x] ∧ Dp K H x p ∧ PyData.showable p = true ∧ SeqAt.shaped p = true ∧ p.shown.length ≤ sizeLine ∧ PyData.hasDict p = false ∧ Q (.str p.shown) H
end

/-! ### the end of a law -/
theorem law_g {P : Program} {w : World} {K : PySem.W.Frag} {mg mb : Str → Option Value} {k : Nat} {fa a : Addr} {fd : FuncData} {x : Str} {sp : Sp} {s₁ : Shared} {vs : List Value} {ns : List Int}
    (inK : K.In s₁.heap) (hns : s₁.heap.Ns mainGlobals mg) (hb : s₁.heap.Ns builtinsNs mb) (hbb : ∀ x : Str, x ≠ "__name__" → mb x = bootBuiltins x) (hlim : s₁.heap.NoLimit) (hg : s₁.gens = #[])
    (ha : s₁.heap.get? a = some { cls := .type "list", data := .seq vs.toArray }) (hi : IntsAre vs ns) (hl : ns.length ≤ sizeLine) (room : Room k callerA)
    (F : ∀ base : Heap, K.In base → base.Ns mainGlobals mg → FnG P w K mg base k fa fd [x] sp) (hbind : ∀ (s : Shared) (u : Value), BindsTo s fd ⟨[u], []⟩ [(x, u)])
    (hsp : ∀ H : Hp, (((∃ o, H a = some (.frz o (.lst (ns.map V.int)))) ∨ SqL K (fun _ => none) a (ns.map V.int))) → sp [.ref a] H (fun v _ => v = .bl true) fun _ _ _ => False) :
    codeAny (model P w) callerA (.call (.ref fa) ⟨[.ref a], []⟩) (fun r s' => r = .ok (.ret (.bool true)) ∧ OldK s₁.heap s'.heap ∧ s'.os = s₁.os ∧ AllBare s'.gens) s₁ := by
  have rv := vals_ints hi
  -- over any abstract heap that tracks the script alone, or nothing
  have core : ∀ H : Hp, (∀ b, H b = none ∨ ∃ o xs, H b = some (.frz o (.lst xs))) → (((∃ o, H a = some (.frz o (.lst (ns.map V.int)))) ∨ SqL K (fun _ => none) a (ns.map V.int))) → HOk P w H s₁.heap → (∀ b, H b ≠ none → b = a) → (H a ≠ none → K.lookup a = none) →
      codeAny (model P w) callerA (.call (.ref fa) ⟨[.ref a], []⟩) (fun r s' => r = .ok (.ret (.bool true)) ∧ OldK s₁.heap s'.heap ∧ s'.os = s₁.os ∧ AllBare s'.gens) s₁ := by
    intro H only hS hok isA noK
    have dictFree : ∀ {b : Addr} {o : Obj} {es : Array DictEntry} {ep : Nat}, s₁.heap.get? b = some o → o.data = .dict es ep → H b = none := by
      intro b o es ep e d
      cases q : H b with
      | none => rfl
      | some u =>
        have hba : b = a := isA b (by rw [q]; simp)
        subst hba
        rw [ha] at e
        cases e
        have d' : Data.seq vs.toArray _ = Data.dict es ep := d
        cases d'
    have nsIn : ∀ {b : Addr} {m : Str → Option Value}, s₁.heap.Ns b m → (hidT s₁.heap H).Ns b m := fun {b m} ⟨o, es, ep, e, d, r⟩ => ⟨o, es, ep, hidT_get e (dictFree e d), d, r⟩
    have kb : K.In (hidT s₁.heap H) := fun b o e => hidT_get (inK b o e) (by
      cases q : H b with
      | none => rfl
      | some u =>
        have hba : b = a := isA b (by rw [q]; simp)
        subst hba
        have z := noK (by rw [q]; simp)
        rw [z] at e
        cases e)
    have hM : Mod K mg (hidT s₁.heap H) := ⟨kb, nsIn hns, ⟨mb, nsIn hb, hbb⟩, let ⟨mc, h1, h2⟩ := hlim; ⟨mc, nsIn h1, h2⟩⟩
    have env0 : Env0 P w K mg (hidT s₁.heap H) callerA [] s₁ H :=
      ⟨rfl, hM, fun b o e => of_hidT e, Nat.le_of_eq (hidT_size _ _), trivial, fun b hb => absurd (show b ∈ ([] : List Addr) from hb) (by simp), hok, .of_eq hg⟩
    refine codeAny_mono ((F _ kb (nsIn hns)).run callerA [] s₁ H ⟨[.ref a], []⟩ [.ref a] [.ref a] _ _ room rfl env0 (hbind s₁ (.ref a)) (.cons rfl .nil) (hsp H hS)) fun r s' h => ?_
    cases r with
    | error e =>
      obtain ⟨_, _, _, _, _, _, _, _, _, _, _, _, z⟩ := (show L2.CX P w [] H s₁ (fun _ _ _ => False) e s' from h)
      exact z.elim
    | ok fl =>
      cases fl with
      | next => exact h.elim
      | brk => exact h.elim
      | cont => exact h.elim
      | ret u =>
        obtain ⟨v, H', os, bare, un, hok', r', q⟩ := h
        have q' : v = .bl true := q
        subst q'
        obtain rfl : u = Value.bool true := r'
        refine ⟨rfl, OldK.of_keep fun b o e => ?_, os, bare⟩
        cases q : H b with
        | none => exact un.keep b o e q (fun z => absurd (show b ∈ ([] : List Addr) from z) (by simp)) (by simp)
        | some u =>
          rcases only b with z | ⟨ob, xs, z⟩
          · rw [q] at z
            cases z
          · have z2 := un.frzs b ob _ z
            obtain ⟨e1, _⟩ := hok b _ z
            obtain ⟨e2, _⟩ := hok' b _ z2
            rw [e] at e1
            cases e1
            exact e2
  have lenV := hi.length
  cases hk : K.lookup a with
  | some o =>
    have e := inK a o hk
    rw [ha] at e
    cases e
    exact core (fun _ => none) (fun _ => .inl rfl) (.inr (.inr ⟨_, vs.toArray, _, hk, rfl, rfl, rfl, by rw [List.size_toArray, lenV]; exact hl, by simpa using rv⟩))
      (fun b u z => by
        have z' : (none : Option HO) = some u := z
        cases z') (fun b z => absurd rfl z) fun z => absurd rfl z
  | none =>
    refine core (fun b => if b = a then some (.frz { cls := .type "list", data := .seq vs.toArray } (.lst (ns.map V.int))) else none) (fun b => ?_) (.inl ⟨_, if_pos rfl⟩) (fun b u z => ?_) (fun b z => ?_) fun _ => hk
    · by_cases hb : b = a
      · exact .inr ⟨_, _, if_pos hb⟩
      · exact .inl (if_neg hb)
    · by_cases hb : b = a
      · have z' := (if_pos hb).symm.trans z
        cases z'
        subst hb
        exact ⟨ha, by rw [List.length_map]; exact hl, vs, _, rv, ha⟩
      · have z' := (if_neg hb).symm.trans z
        cases z'
    · by_cases hb : b = a
      · exact hb
      · exact absurd (if_neg hb) z

end Tk
/-! Tk9: two names stored at once. -/
namespace Tk
open PySem PySem.Spec PyProof.Rows L2
section
variable {G : Tb} {XR : XW} {W : WX} {X : Cx} {fx : List Nat}

/-- a slot's thing becomes data; else as it is -/
def rsl (o : Out) (e : Env) : Option (RV × Env) := match o with
  | .dat d => some (.dat d, e)
  | .fresh d => some (.fresh d, e)
  | .slot i => match use e (.slot i) with
    | some (.ok d e2) => some (.dat d, e2)
    | _ => none
def RV.cell : RV → Cell
  | .dat d => .dat d
  | .fresh d => .own d
def parK (fx : List Nat) (i j : Nat) (o1 o2 : Out) (e : Env) : Option (Rs Fl) := match rsl o1 e with
  | some (r1, e1) => match rsl o2 e1 with
    | some (r2, e2) => if i ∈ fx ∨ j ∈ fx ∨ e2.length ≤ i ∨ e2.length ≤ j ∨ i = j then none else some (.ok .next ((e2.set i (some r1.cell)).set j (some r2.cell)))
    | none => none
  | none => none
def sPar (fx : List Nat) (i j : Nat) (f g : EF) : SF := fun env => bd (f env) fun o1 e1 => bd (g e1) fun o2 e2 => parK fx i j o1 o2 e2

def RvAt (G : Tb) (H0 : Hp) (A : Hid) (σ : L2.St) (H : Hp) (e : Env) (r : RV) (v : V) : Prop := OutOk G H0 A σ H e r.out v
theorem rsl_ok {σ : L2.St} {A A0 : Hid} {H H0 : Hp} {env0 e e1 : Env} {o : Out} {v : V} {r : RV} (R : Rep G A σ H e) (F0 : Fr (Own σ env0) A0 H0 (Own σ e) A H) (ok : OutOk G H0 A σ H e o v) (h : rsl o e = some (r, e1)) :
    ∃ A1, Rep G A1 σ H e1 ∧ Fr (Own σ env0) A0 H0 (Own σ e1) A1 H ∧ OutOk G H0 A1 σ H e1 r.out v ∧ (∀ q, Own σ e1 q → Own σ e q) ∧ (∀ q, A1 q → A q) ∧ ∀ q, A q → ¬ Own σ e q → A1 q := by
  cases o with
  | dat d =>
    cases h
    exact ⟨A, R, F0, ok, fun _ z => z, fun _ z => z, fun _ z _ => z⟩
  | fresh d =>
    cases h
    exact ⟨A, R, F0, ok, fun _ z => z, fun _ z => z, fun _ z _ => z⟩
  | slot i =>
    have h : (match use e (.slot i) with
      | some (.ok d e2) => some (RV.dat d, e2)
      | _ => none) = some (r, e1) := h
    split at h
    · rename_i d e2 hu
      cases h
      have ok : σ[i]? = some (some v) := ok
      unfold use at hu
      simp only at hu
      split at hu
      · rename_i d' h1
        cases hu
        obtain ⟨u, e2, c⟩ := R.cell i _ h1
        rw [ok] at e2
        cases e2
        exact ⟨A, R, F0, c, fun _ z => z, fun _ z => z, fun _ z _ => z⟩
      · rename_i d' h1
        cases hu
        obtain ⟨u, e2, p, e3, a, t⟩ := R.cell i _ h1
        rw [ok] at e2
        cases e2
        subst e3
        obtain ⟨r1, r2, r3⟩ := R.freeze h1 ok
        refine ⟨_, r1, ⟨fun b x hb nb => ⟨(F0.keep b x hb nb).1, ?_⟩, fun q hq => F0.own q (r2 q hq).1, F0.dom⟩, r3, fun q z => (r2 q z).1, fun _ z => z.1, fun q z n => ⟨z, fun w => n ⟨i, d, h1, w ▸ ok⟩⟩⟩
        refine Iff.trans ⟨fun z => z.1, fun z => ⟨z, fun w => ?_⟩⟩ (F0.keep b x hb nb).2
        rcases F0.own b ⟨i, d, h1, w ▸ ok⟩ with q | q
        · exact nb q
        · rw [q] at hb
          cases hb
      · cases hu
    · cases h
/-- an out stays while own things become data -/
theorem OutOk.less {σ : L2.St} {A A1 : Hid} {H H0 : Hp} {e e1 : Env} {o : Out} {v : V} (R : Rep G A σ H e) (ow : ∀ q, Own σ e1 q → Own σ e q) (sub : ∀ q, A1 q → A q) (kp : ∀ q, A q → ¬ Own σ e q → A1 q) (ok : OutOk G H0 A σ H e o v) : OutOk G H0 A1 σ H e1 o v := by
  cases o with
  | dat d => exact RepD.mono (sub_stab sub) R.tup _ _ ok
  | fresh d =>
    obtain ⟨p, e1, e2, a, n, t⟩ := ok
    exact ⟨p, e1, e2, kp p a n, fun z => n (ow p z), t.mono (sub_stab sub) R.tup fun _ z => z⟩
  | slot i => exact ok
/-- one cell stored -/
theorem Rep.setRV {σ : L2.St} {A : Hid} {H H0 : Hp} {e : Env} {i : Nat} {r : RV} {v : V} (R : Rep G A σ H e) (hi : i < e.length) (ok : OutOk G H0 A σ H e r.out v) :
    Rep G A (σ.set i (some v)) H (e.set i (some r.cell)) ∧ ∀ q, Own (σ.set i (some v)) (e.set i (some r.cell)) q → Own σ e q ∨ (v = .ref q ∧ H0 q = none) := by
  cases r with
  | dat d =>
    obtain ⟨R1, o1⟩ := R.setDat hi ok
    exact ⟨R1, fun q z => .inl (o1 q z)⟩
  | fresh d =>
    obtain ⟨p, rfl, e2, a, n, t⟩ := ok
    obtain ⟨R1, o1⟩ := R.setOwn hi a n t
    refine ⟨R1, fun q z => ?_⟩
    rcases o1 q z with w | w
    · exact .inl w
    · subst w
      exact .inr ⟨rfl, e2⟩
theorem es_par {i j : Nat} {x y : Str} {a b : Expr} {px py pt pos : Pos} {kt k2 : Nat} {pt2 : Pos} {f g : EF} (hc : X.calm = true) (hN : X.N.Nodup) (hi : X.N[i]? = some x) (hj : X.N[j]? = some y) (hij : i ≠ j)
    (hx : X.env.scope.names.lookup x = some .local) (hy : X.env.scope.names.lookup y = some .local) (ha : PE X a (tEv G XR W f)) (hb : PE X b (tEv G XR W g))
    (hw : swappedStores [.Tuple [.Name x px, .Name y py] kt pt] (.Tuple [a, b] k2 pt2) X.env = pure (some [x, y]))
    (hs : swapsWithSole [.Tuple [.Name x px, .Name y py] kt pt] (.Tuple [a, b] k2 pt2) pos.line X.env = pure false := by rfl) (hs1 : starEach [a, b] X.env = (false, eval a X.env) :: starEach [b] X.env := by rfl) (hs2 : starEach [b] X.env = [(false, eval b X.env)] := by rfl) :
    PS X (.Assign [.Tuple [.Name x px, .Name y py] kt pt] (.Tuple [a, b] k2 pt2) pos) (tEx G XR W fx (sPar fx i j f g)) :=
  PS_imp (ps_par hc hN hi hj hij hx hy (pa_cons ha (pa_cons hb pa_nil hs2) hs1) hw hs) fun D σ H ⟨A, env, R, p⟩ => by
    unfold sPar at p
    refine ⟨A, env, R, ?_⟩
    cases hf : f env with
    | none =>
      rw [hf] at p
      exact p
    | some r =>
      rw [hf] at p
      cases r with
      | ex x e1 => exact fun A1 H1 c d R1 F1 xr => p σ A1 H1 c d R1 (Keep.refl _ _) F1 xr
      | ok o1 e1 =>
        rw [bd_ok] at p
        intro A1 H1 R1 F1 v1 ok1
        refine ⟨A1, e1, R1, ?_⟩
        cases hg : g e1 with
        | none =>
          rw [hg] at p
          exact p
        | some r2 =>
          rw [hg] at p
          cases r2 with
          | ex x e2 => exact fun A2 H2 c d R2 F2 xr => p σ A2 H2 c d R2 (Keep.refl _ _) (F1.trans F2) xr
          | ok o2 e2 =>
            rw [bd_ok] at p
            intro A2 H2 R2 F2 v2 ok2
            refine ⟨v1, v2, rfl, ?_⟩
            have ok1' := ok1.mono R1 F2
            -- two new things are two
            have apart : ∀ d1 d2, o1 = .fresh d1 → o2 = .fresh d2 → v1 ≠ v2 := fun d1 d2 q1 q2 z => by
              subst q1 q2
              obtain ⟨p1, w1, _, a1, _, _⟩ := ok1
              obtain ⟨p2, w2, n2, _⟩ := ok2
              rw [w1, w2] at z
              cases z
              obtain ⟨o, eo, _⟩ := R1.tup p1 a1
              rw [n2] at eo
              cases eo
            have ok2' : OutOk G H A2 σ H2 e2 o2 v2 := ok2.base fun p h => F1.none h
            unfold parK at p
            split at p
            · rename_i r1 e3 h3
              obtain ⟨A3, R3, F3, k3, w3, s3, kp3⟩ := rsl_ok R2 (F1.trans F2) ok1' h3
              split at p
              · rename_i r2 e4 h4
                obtain ⟨A4, R4, F4, k4, w4, s4, kp4⟩ := rsl_ok R3 F3 (ok2'.less R2 w3 s3 kp3) h4
                have k3' := k3.less R3 w4 s4 kp4
                split at p
                · exact p.elim
                · rename_i hcond
                  have c1 : i ∉ fx := fun z => hcond (.inl z)
                  have c2 : j ∉ fx := fun z => hcond (.inr (.inl z))
                  have c3 : i < e4.length := Nat.lt_of_not_le fun z => hcond (.inr (.inr (.inl z)))
                  have c4 : j < e4.length := Nat.lt_of_not_le fun z => hcond (.inr (.inr (.inr (.inl z))))
                  obtain ⟨R5, w5⟩ := R4.setRV c3 k3'
                  have k5 : OutOk G H A4 (σ.set i (some v1)) H2 (e4.set i (some r1.cell)) r2.out v2 := by
                    cases r2 with
                    | dat d => exact k4
                    | fresh d =>
                      obtain ⟨q, z1, z2, z3, z4, z5⟩ := k4
                      refine ⟨q, z1, z2, z3, fun z => ?_, z5⟩
                      rcases w5 q z with w | ⟨w, _⟩
                      · exact z4 w
                      · have hv : v1 = v2 := w.trans z1.symm
                        cases r1 with
                        | dat d1 =>
                          have z6 : RepD G A4 H2 d1 (.ref q) := by
                            rw [← z1, ← hv]
                            exact k3'
                          -- a dat cell makes no own thing
                          obtain ⟨R6, w6⟩ := R4.setDat c3 (i := i) (v := v1) k3'
                          exact z4 (w6 q z)
                        | fresh d1 =>
                          have q1 : o1 = .fresh d1 := by
                            cases o1 with
                            | dat _ => cases h3
                            | fresh _ => cases h3; rfl
                            | slot m =>
                              have h3 : (match use e2 (.slot m) with
                                | some (.ok d e2) => some (RV.dat d, e2)
                                | _ => none) = some (RV.fresh d1, e3) := h3
                              split at h3 <;> cases h3
                          have q2 : o2 = .fresh d := by
                            cases o2 with
                            | dat _ => cases h4
                            | fresh _ => cases h4; rfl
                            | slot m =>
                              have h4 : (match use e3 (.slot m) with
                                | some (.ok d e2) => some (RV.dat d, e2)
                                | _ => none) = some (RV.fresh d, e4) := h4
                              split at h4 <;> cases h4
                          exact apart d1 d q1 q2 hv
                  obtain ⟨R6, w6⟩ := R5.setRV (by rw [List.length_set]; exact c4) k5
                  refine p _ A4 H2 R6 ?_ (F4.less fun q z => ?_)
                  · exact (keep_set c1).trans (keep_set c2)
                  · rcases w6 q z with w | ⟨_, w⟩
                    · rcases w5 q w with w' | ⟨_, w'⟩
                      · exact .inl w'
                      · exact .inr w'
                    · exact .inr w
              · exact p.elim
            · exact p.elim
end
end Tk
/-! Tk10: the facts of a body's context; of a callee; chains. -/
namespace Tk
open PySem PySem.Spec PyProof.Rows L2

/-- what a body's derivation leans on -/
structure Bx (G : Tb) (W : WX) (k : Nat) (X : Cx) : Prop where
  calm : X.calm = true
  kk : X.K = G.K
  nd : X.N.Nodup
  room : Room k X.A
  gu : X.A.guards = some []
  tk : Takes X W
  po : PassesOwn (model X.prog X.w) X.A X.env X.xe
theorem Bx.un {G : Tb} {W : WX} {k : Nat} {X : Cx} (B : Bx G W k X) : X.A.units + 150 < cLine := by
  have := B.room.un
  omega
theorem Bx.un64 {G : Tb} {W : WX} {k : Nat} {X : Cx} (B : Bx G W k X) : X.A.units + 64 < cLine := by
  have := B.room.un
  omega
theorem takesF {X : Cx} : Takes X W0 := fun _ _ x => by
  obtain ⟨_, _, _, _, _, _, _, _, _, _, _, _, _, _, _, _, z⟩ := x
  exact z.elim
theorem Bx.blk {G : Tb} {W : WX} {k : Nat} {X : Cx} (B : Bx G W k X) (s : Shared) (H : Hp) (scope : Scope) (cenv : PySem.Env) (fp : List Addr) : Bx G W0 k (X.blk s H scope cenv fp) :=
  ⟨B.calm, B.kk, B.nd, B.room, B.gu, takesF, PassesOwn.never⟩
theorem Bx.of {K : PySem.W.Frag} {G : Tb} (hG : G.K = K) {P : Program} {w : World} {mg : Str → Option Value} {base : Heap} {N : List Str} {qual : Str} {sc : Scope} {f : Addr} {cdv : Value} {A : Around} {outer : List PySem.Env} {s : Shared} {H : Hp} {E : XK} {k : Nat} (nd : N.Nodup)
    (hr : Room k (A.deeper (envOfC qual sc s.heap.objs.size f cdv))) (hg : A.guards = some []) : Bx G (fun c d _ H => E c d H) k (cxOf (L2.CX P w) P w K mg base N qual sc f cdv A outer s H E) :=
  ⟨rfl, hG.symm, nd, hr, hg, takes_of rfl rfl rfl rfl, passes_of rfl⟩

/-- a def as its callers see it -/
structure FnI (P : Program) (w : World) (K : PySem.W.Frag) (mg : Str → Option Value) (base : Heap) (nm : Str) (k : Nat) (ps : List Str) (sp : Sp) (f : Addr) (fd : FuncData) : Prop where
  fn : FnG P w K mg base k f fd ps sp
  mg : mg nm = some (.ref f)
  kp : PySem.W.keepIn K (.ref f) = true
  bd : Binds K fd ps []

section
variable {G : Tb} {XR : XW} {W : WX} {X : Cx} {fx : List Nat}
/-- a < b < c -/
def chK (F F' : D → D → Option RV) (h : EF) (o o' : Out) (e : Env) : Option (Rs Bool) := bd (fin2 F e o o') fun z e1 => match z with
  | .dat (.bl true) => bd (h e1) fun o2 e2 => bd (fin2 F' e2 o' o2) fun z2 e3 => match z2 with
    | .dat (.bl b) => some (.ok b e3)
    | _ => none
  | .dat (.bl false) => some (.ok false e1)
  | _ => none
def tChainF (F F' : D → D → Option RV) (f g h : EF) : TF := fun env => bd (f env) fun o e => bd (g e) fun o' e' => chK F F' h o o' e'
/-! ### x += e -/
def sAug (fx : List Nat) (i : Nat) (F : D → D → Option RV) (f : EF) : SF := fun env => match (env[i]? : Option (Option Cell)) with
  | some (some _) => bd (f env) fun o e => bd (fin2 F e (.slot i) o) fun z e1 => setK fx i z e1
  | _ => none
def fIAdd : D → D → Option RV
  | .int i, .int j => some (.dat (.int (i + j)))
  | .str a, .str b => if szOk (a.length + b.length) = true then some (.dat (.str (a ++ b))) else none
  | _, _ => none
def rIAdd : R2 := fun x y H Q => (∃ i j, x = .int i ∧ y = .int j ∧ Q (.int (i + j)) H) ∨ ∃ i j, x = .str i ∧ y = .str j ∧ i.length + j.length ≤ sizeLine ∧ Q (.str (i ++ j)) H
end
/-- turns enough for any while here -/
def fuelN : Nat := 2 ^ 4000
end Tk
/-! Tk11: what is never reached; in, all, any, list, tuple, texts in order, dict displays. -/
namespace Tk
open PySem PySem.Spec PyProof.Rows L2

section
variable {G : Tb} {XR : XW} {W : WX} {X : Cx} {fx : List Nat}

/-! ### no promise -/
def cBot : EF := fun _ => none
def sBot : SF := fun _ => none
/-! ### in -/
def oneSign : D → Option Nat
  | .str x => match x.cps.toList with
    | [c] => some c
    | _ => none
  | _ => none
def flatD : D → Bool
  | .non => true
  | .bl _ => true
  | .int _ => true
  | .str _ => true
  | _ => false
def flD : D → V
  | .non => .non
  | .bl b => .bl b
  | .int i => .int i
  | .str x => .str x
  | _ => .non
/-- what stands in d: its parts -/
def partsD : D → Option (List D)
  | .tup l => some l
  | .lst l => some l
  | _ => none
def fInS (neg : Bool) (d e : D) : Option RV := match oneSign d, e with
  | some c, .str z => some (.dat (.bl (neg ^^ decide (c ∈ z.cps.toList))))
  | _, _ => none
def fInF (neg : Bool) (d e : D) : Option RV := match partsD e with
  | some l => if flatD d = true ∧ l.all flatD = true then some (.dat (.bl (neg ^^ inV (flD d) (l.map flD)))) else none
  | none => none
def fInD (neg : Bool) (d e : D) : Option RV := match toPy d, e, toPy e with
  | some p, .lst _, some (.list ps) => if SeqAt.shaped p = true ∧ SeqAt.shaped (.list ps) = true then some (.dat (.bl (neg ^^ ps.any fun z => PyData.eqv z p))) else none
  | _, _, _ => none
def orE {α : Type} (a b : Option α) : Option α := match a with
  | some x => some x
  | none => b
def fIn (neg : Bool) (d e : D) : Option RV := orE (fInS neg d e) (orE (fInF neg d e) (fInD neg d e))
def rInAll (K : PySem.W.Frag) : R2 := fun x y H Q => (∃ (c : Nat) (z : Str), x = .str ⟨#[c]⟩ ∧ y = .str z ∧ Q (.bl (decide (c ∈ z.cps.toList))) H) ∨ rIn K false x y H Q ∨ rInD K x y H Q
def rNotInAll (K : PySem.W.Frag) : R2 := fun x y H Q => (∃ (c : Nat) (z : Str), x = .str ⟨#[c]⟩ ∧ y = .str z ∧ Q (.bl (!decide (c ∈ z.cps.toList))) H) ∨ rIn K true x y H Q ∨ rNotInD K x y H Q
theorem parts_v {A : Hid} {H : Hp} {e : D} {l : List D} {y : V} (h : partsD e = some l) (r : RepT G A H e y) : ∃ p vs, y = .ref p ∧ (SqL G.K H p vs ∨ SqT G.K H p vs) ∧ RepDs G A H l vs := by
  cases e <;> try (cases h; done)
  · cases h
    obtain ⟨a, vs, e1, s, r⟩ := t_tup r
    exact ⟨a, vs, e1, .inr s, r⟩
  · cases h
    obtain ⟨a, vs, e1, s, r⟩ := t_lst r
    exact ⟨a, vs, e1, .inl (SqL.of s), r⟩
/-! ### all, any -/
def blOf : D → Option Bool
  | .bl b => some b
  | _ => none
def blsOf : List D → Option (List Bool)
  | [] => some []
  | d :: l => match blOf d, blsOf l with
    | some b, some r => some (b :: r)
    | _, _ => none
def fAll : D → Option RV
  | .lst l => (blsOf l).map fun bs => .dat (.bl (bs.all id))
  | _ => none
def fAny : D → Option RV
  | .lst l => (blsOf l).map fun bs => .dat (.bl (bs.any id))
  | _ => none
/-! ### list, tuple -/
def fList : D → Option RV
  | .lst l => some (.fresh (.lst l))
  | .tup l => some (.fresh (.lst l))
  | _ => none
def fTuple : D → Option RV
  | .lst l => some (.dat (.tup l))
  | .tup l => some (.dat (.tup l))
  | _ => none
/-! ### texts in order -/
def fCmp (F : D → D → Option RV) (S : Str → Str → Bool) (d e : D) : Option RV := match twoS d e with
  | some (x, y) => some (.dat (.bl (S x y)))
  | none => F d e
abbrev fLtA := fCmp fLt fun i j => decide (i.cps.toList < j.cps.toList)
abbrev fGtA := fCmp fGt fun i j => decide (j.cps.toList < i.cps.toList)
abbrev fLeA := fCmp fLe fun i j => !decide (j.cps.toList < i.cps.toList)
abbrev fGeA := fCmp fGe fun i j => !decide (i.cps.toList < j.cps.toList)
abbrev rCmp (S : Str → Str → Bool) (r : R2) : R2 := fun x y H Q => (∃ i j, x = .str i ∧ y = .str j ∧ Q (.bl (S i j)) H) ∨ r x y H Q
/-! ### {} -/
def cDct0 : EF := fun env => some (.ok (.fresh (.dct [] [])) env)
end
end Tk
/-! Tk12: raise, try, isinstance of a caught exception. -/
namespace Tk
open PySem PySem.Spec PyProof.Rows L2

def Tb.at (G : Tb) (z : Option (Addr × Value × Option Addr)) : Tb := { G with exa := z }
section
variable {G : Tb} {z : Option (Addr × Value × Option Addr)} {A : Hid} {H : Hp}
mutual
theorem RepD_at : ∀ (d : D) (v : V), RepD (G.at z) A H d v ↔ RepD G A H d v
  | .non, v => by unfold RepD; exact Iff.rfl
  | .bl _, v => by unfold RepD; exact Iff.rfl
  | .int _, v => by unfold RepD; exact Iff.rfl
  | .str _, v => by unfold RepD; exact Iff.rfl
  | .fn _, v => by unfold RepD; exact Iff.rfl
  | .scr _, v => by unfold RepD; exact Iff.rfl
  | .tup l, v => by
    unfold RepD
    exact exists_congr fun a => exists_congr fun vs => and_congr Iff.rfl (and_congr Iff.rfl (RepDs_at l vs))
  | .lst l, v => by
    unfold RepD
    exact exists_congr fun a => exists_congr fun vs => and_congr Iff.rfl (and_congr Iff.rfl (RepDs_at l vs))
  | .dct ks l, v => by
    unfold RepD
    exact exists_congr fun a => exists_congr fun vs => and_congr Iff.rfl (and_congr Iff.rfl (and_congr Iff.rfl (and_congr Iff.rfl (RepDs_at l vs))))
  | .obj c l, v => by
    unfold RepD
    exact exists_congr fun a => exists_congr fun C => exists_congr fun dx => exists_congr fun ns => exists_congr fun vs => and_congr Iff.rfl (and_congr Iff.rfl (and_congr Iff.rfl (and_congr Iff.rfl (and_congr Iff.rfl (RepDs_at l vs)))))
  | .exv c l, v => by
    unfold RepD
    exact exists_congr fun a => exists_congr fun C => exists_congr fun ns => exists_congr fun vs => and_congr Iff.rfl (and_congr Iff.rfl (and_congr Iff.rfl (and_congr Iff.rfl (and_congr (RepDs_at l vs) Iff.rfl))))
theorem RepDs_at : ∀ (l : List D) (vs : List V), RepDs (G.at z) A H l vs ↔ RepDs G A H l vs
  | [], vs => by unfold RepDs; exact Iff.rfl
  | d :: l, vs => by
    unfold RepDs
    exact exists_congr fun v => exists_congr fun r => and_congr Iff.rfl (and_congr (RepD_at d v) (RepDs_at l r))
end
theorem RepTop_at (d : D) (p : Addr) : RepTop (G.at z) A H d p ↔ RepTop G A H d p := by
  cases d with
  | lst l => exact exists_congr fun vs => and_congr Iff.rfl (RepDs_at l vs)
  | dct ks l => exact exists_congr fun vs => and_congr Iff.rfl (and_congr Iff.rfl (RepDs_at l vs))
  | obj c l => exact exists_congr fun C => exists_congr fun dx => exists_congr fun ns => exists_congr fun vs => and_congr Iff.rfl (and_congr Iff.rfl (and_congr Iff.rfl (RepDs_at l vs)))
  | _ => exact Iff.rfl
theorem XFs_at (x : Exc) (d : Option Addr) : XFs (G.at z) A H x d ↔ XFs G A H x d := by
  unfold XFs
  exact or_congr Iff.rfl (exists_congr fun C => exists_congr fun ns => exists_congr fun p => exists_congr fun vs => and_congr Iff.rfl (and_congr Iff.rfl (and_congr Iff.rfl (and_congr Iff.rfl (and_congr Iff.rfl (RepDs_at _ vs))))))
end

theorem kit_own {K : PySem.W.Frag} {C c : Addr} {b : Bool} (h1 : PySem.W.isClsIn K c = true) (h2 : PySem.W.typeIn K (.ref c) = some (.type "type")) (h3 : PySem.W.subIn K (.ref C) (.ref c) = some b) (hs : PySem.W.subIn K (.ref C) (.ref C) = some true) : PySem.W.kitOne K (.ref C) (.ref c) = some b := by
  unfold PySem.W.kitOne
  by_cases e : C = c
  · subst e
    rw [hs] at h3
    cases h3
    exact if_pos (beq_self_eq_true _)
  · rw [if_neg (fun z => e (Value.ref.inj (beq_iff_eq.mp z)))]
    have h1' : (PySem.W.clsIn K c).isSome = true := h1
    simp [PySem.W.kitCls, h1', h2, h3]
theorem kit_blt {K : PySem.W.Frag} {C : Addr} {T : String} {b : Bool} (hm : PySem.W.kitMeta T = true) (h3 : PySem.W.subIn K (.ref C) (.type T) = some b) : PySem.W.kitOne K (.ref C) (.type T) = some b := by
  simp [PySem.W.kitOne, PySem.W.kitCls, hm, h3]
section
variable {G : Tb} {W : WX} {X : Cx} {fx : List Nat}

/-! ### raise C('..') -/
def sRaise (k : Nat) : SF := fun env => some (.ex ⟨k, []⟩ env)
/-! ### try -/
def noX : Option Cell → Bool
  | some (.exc _) => false
  | _ => true
def outX (i : Nat) : Fl → Bool
  | .ret (.slot j) => j != i
  | _ => true
def leaveX (i : Nat) : Option (Rs Fl) → Option (Rs Fl)
  | some (.ok fl e) => if outX i fl = true ∧ (e.set i none).all noX = true then some (.ok fl (e.set i none)) else none
  | _ => none
def sTryAs (i : Nat) (m : Nat → Option Bool) (body suite : SF) : SF := fun env => match body env with
  | some (.ex x e) => match m x.cls with
    | some true => match (e[i]? : Option (Option Cell)) with
      | some none => if e.all noX = true then leaveX i (suite (e.set i (some (.exc x)))) else none
      | _ => none
    | some false => some (.ex x e)
    | none => none
  | r => r

theorem get_noX {e : Env} (h : e.all noX = true) {i : Nat} {c : Cell} (k : e[i]? = some (some c)) : noX (some c) = true := List.all_eq_true.mp h _ (List.mem_of_getElem? k)
theorem Fr.lessO {O A O' A' O2 : Hid} {H H' : Hp} (f : Fr O A H O' A' H') (h : ∀ p, O2 p → O' p) : Fr O A H O2 A' H' := ⟨f.keep, fun p q => f.own p (h p q), f.dom⟩
theorem Fr.moreO {O A O' A' O1 : Hid} {H H' : Hp} (f : Fr O A H O' A' H') (h : ∀ p, O p → O1 p) : Fr O1 A H O' A' H' := ⟨fun a o e n => f.keep a o e fun z => n (h a z), fun p q => (f.own p q).imp (h p) id, f.dom⟩
theorem own_clear {σ : L2.St} {e : Env} {i : Nat} {p : Addr} (h : Own (σ.set i none) (e.set i none) p) : Own σ e p := by
  obtain ⟨j, d, k1, k2⟩ := h
  by_cases hj : i = j
  · subst hj
    exfalso
    rw [List.getElem?_set] at k1
    split at k1
    · split at k1 <;> cases k1
    · exact absurd rfl (by assumption)
  · rw [get_set_ne hj] at k1
    rw [List.getElem?_set_ne hj] at k2
    exact ⟨j, d, k1, k2⟩
theorem own_clear' {σ : L2.St} {e : Env} {i : Nat} {p : Addr} (h : Own σ (e.set i none) p) : Own σ e p := by
  obtain ⟨j, d, k1, k2⟩ := h
  by_cases hj : i = j
  · subst hj
    exfalso
    rw [List.getElem?_set] at k1
    split at k1
    · split at k1 <;> cases k1
    · exact absurd rfl (by assumption)
  · rw [get_set_ne hj] at k1
    exact ⟨j, d, k1, k2⟩
/-- into a suite -/
theorem Rep.toX {z : Addr × Value × Option Addr} {σ : L2.St} {A : Hid} {H : Hp} {e : Env} {i : Nat} {x : Exc} {C : Addr} {ns : List Str} (R : Rep G A σ H e) (h0 : e.all noX = true) (hi : e[i]? = some none) (hc : G.cls x.cls = some (C, ns)) (hz : z.2.1 = .ref C) (xf : XFs G A H x z.2.2) :
    Rep (G.at (some z)) A (σ.set i (some (.ref z.1))) H (e.set i (some (.exc x))) := by
  have hl : i < e.length := (List.getElem?_eq_some_iff.mp hi).1
  have hl2 : i < σ.length := by rw [← R.len]; exact hl
  refine ⟨by rw [List.length_set, List.length_set]; exact R.len, R.tup, fun j c k => ?_, fun j1 j2 d1 d2 w k1 k2 k3 k4 => ?_⟩
  · by_cases hj : i = j
    · subst hj
      rw [get_set_self hi] at k
      cases k
      refine ⟨.ref z.1, by rw [List.getElem?_set_self hl2], z.1, C, z.2.2, ns, rfl, ?_, hc, (XFs_at x _).mpr xf⟩
      show some z = some (z.1, .ref C, z.2.2)
      rw [← hz]
    · rw [get_set_ne hj] at k
      obtain ⟨v, e1, c1⟩ := R.cell j c k
      refine ⟨v, by rw [List.getElem?_set_ne hj]; exact e1, ?_⟩
      cases c with
      | dat d => exact (RepD_at d v).mpr c1
      | own d =>
        obtain ⟨p, e2, a, t⟩ := c1
        exact ⟨p, e2, a, (RepTop_at d p).mpr t⟩
      | exc y => exact absurd (get_noX h0 k) Bool.false_ne_true
  · have g : ∀ (j : Nat) (d : D) (w : V), (e.set i (some (.exc x)))[j]? = some (some (Cell.own d)) → (σ.set i (some (.ref z.1)))[j]? = some (some w) → e[j]? = some (some (.own d)) ∧ σ[j]? = some (some w) := fun j d w k k' => by
      by_cases hj : i = j
      · subst hj
        rw [get_set_self hi] at k
        cases k
      · rw [get_set_ne hj] at k
        rw [List.getElem?_set_ne hj] at k'
        exact ⟨k, k'⟩
    exact R.inj j1 j2 d1 d2 w (g _ _ _ k1 k3).1 (g _ _ _ k2 k4).1 (g _ _ _ k1 k3).2 (g _ _ _ k2 k4).2
theorem own_toX {z : V} {σ : L2.St} {e : Env} {i : Nat} {x : Exc} (hi : e[i]? = some none) {p : Addr} (h : Own (σ.set i (some z)) (e.set i (some (.exc x))) p) : Own σ e p := by
  obtain ⟨j, d, k1, k2⟩ := h
  by_cases hj : i = j
  · subst hj
    rw [get_set_self hi] at k1
    cases k1
  · rw [get_set_ne hj] at k1
    rw [List.getElem?_set_ne hj] at k2
    exact ⟨j, d, k1, k2⟩
/-- out of a suite; w: whether the slot is cleared too -/
theorem Rep.ofX {z : Option (Addr × Value × Option Addr)} {σ σ' : L2.St} {A : Hid} {H : Hp} {e : Env} {i : Nat} (R : Rep (G.at z) A σ H e) (h : (e.set i none).all noX = true) (hσ : σ' = σ ∨ σ' = σ.set i none) : Rep G A σ' H (e.set i none) := by
  have hs : ∀ j, i ≠ j → σ'[j]? = σ[j]? := fun j hj => by
    rcases hσ with rfl | rfl
    · rfl
    · rw [List.getElem?_set_ne hj]
  have ne : ∀ (j : Nat) (c : Cell), (e.set i none)[j]? = some (some c) → i ≠ j ∧ e[j]? = some (some c) := fun j c k => by
    by_cases hj : i = j
    · subst hj
      exfalso
      rw [List.getElem?_set] at k
      split at k
      · split at k <;> cases k
      · exact absurd rfl (by assumption)
    · rw [get_set_ne hj] at k
      exact ⟨hj, k⟩
  refine ⟨?_, R.tup, fun j c k => ?_, fun j1 j2 d1 d2 w k1 k2 k3 k4 => ?_⟩
  · rw [List.length_set, R.len]
    rcases hσ with rfl | rfl
    · rfl
    · rw [List.length_set]
  · have nx := get_noX h k
    obtain ⟨hj, k'⟩ := ne j c k
    obtain ⟨v, e1, c1⟩ := R.cell j c k'
    refine ⟨v, by rw [hs j hj]; exact e1, ?_⟩
    cases c with
    | dat d => exact (RepD_at d v).mp c1
    | own d =>
      obtain ⟨p, e2, a, t⟩ := c1
      exact ⟨p, e2, a, (RepTop_at d p).mp t⟩
    | exc y => exact absurd nx Bool.false_ne_true
  · obtain ⟨n1, m1⟩ := ne _ _ k1
    obtain ⟨n2, m2⟩ := ne _ _ k2
    rw [hs _ n1] at k3
    rw [hs _ n2] at k4
    exact R.inj j1 j2 d1 d2 w m1 m2 k3 k4

/-- what is left of Bx in a suite -/
structure Bs (G : Tb) (X : Cx) : Prop where
  kk : X.K = G.K
  nd : X.N.Nodup
  un : X.A.units + 150 < cLine
  gu : X.A.guards = some []
theorem Bs.un64 {G : Tb} {X : Cx} (B : Bs G X) : X.A.units + 64 < cLine := by
  have := B.un
  omega
theorem Bx.suite {k : Nat} (B : Bx G W k X) (a : Addr) (pn : List (Addr × Obj)) (z : Option (Addr × Value × Option Addr)) : Bs (G.at z) (X.suite a pn) := ⟨B.kk, B.nd, B.un, B.gu⟩

/-! ### isinstance(e, C), isinstance(e, (C, ..)) -/
def rIsX (K : PySem.W.Frag) (a : Addr) (cls : Value) (d : Option Addr) : List V → Hp → VK → Prop := fun xs H Q => ∃ (c : V) (E : Addr) (b : Bool), xs = [.ref a, c] ∧ cls = .ref E ∧ ExcC K E ∧ (d = none ∨ ∃ p fs, d = some p ∧ H p = some (.xd fs)) ∧
  ((∃ cv, (∀ u, RelV c u → u = cv) ∧ PySem.W.kitOne K (.ref E) cv = some b) ∨ ∃ q vs cvs, c = .ref q ∧ SqT K H q vs ∧ (∀ us, Vals vs us → us = cvs) ∧ PySem.W.kitAny K (.ref E) cvs = some b) ∧ Q (.bl b) H
def cIsE (i : Nat) (m : Nat → Option Bool) : EF := fun env => match (env[i]? : Option (Option Cell)) with
  | some (some (.exc x)) => match m x.cls with
    | some b => some (.ok (.dat (.bl b)) env)
    | none => none
  | _ => none
section
variable {a : Addr} {cls : Value} {d : Option Addr} {oe : Obj} {pn : List (Addr × Obj)} {i : Nat} {m : Nat → Option Bool} {e0 ce : Expr} {p pos : Pos}
end
end

/-- the goal that the head leaves, the classes' places found on the way -/
theorem walk_x {l : PySem.W.OpenLaw} {n k : Nat} {q : Program} {loose : List Str} {XP : (Str → Option Value) → Heap → Prop} {YP : World → Heap → Prop} {d : DefRec} {K : Params → PySem.W.Frag} {x : Str} {Φ : List D → Option RR}
    (hn : l.most = some n) (hn2 : n ≤ sizeLine) (hdf : d.params.defaults = []) (hr : Room k callerA) (hY : ∀ (w : World) (h : Heap), YP w h → (K w.params).In h)
    (F : ∀ (w : World) (mg : Str → Option Value) (fa : Addr) (h : Heap), (K w.params).In h → h.Ns mainGlobals mg → mg d.name = some (.ref fa) →
      ∃ fd : FuncData, (∀ (s : Shared) (u : Value), BindsTo s fd ⟨[u], []⟩ [(x, u)]) ∧ ∃ G : Tb, G.K = K w.params ∧ ∀ base : Heap, (K w.params).In base → base.Ns mainGlobals mg → FnG l.prog w (K w.params) mg base k fa fd [x] (spP G XRx 1 Φ))
    (hΦ : ∀ ns : List Int, ns.length ≤ n → (∀ z ∈ ns, Builtin.Int.intBits z ≤ 1048576) → Φ [.scr ns] = some (.ok (.dat (.bl true)))) : PySem.W.WalkO q loose XP YP l.row.toRowW d [] (fun f vs => PySem.call f vs) := by
  refine Att.attach_callB hn hdf fun w s₀ s₁ mg mb fa o pm cd doc a vs ns Gr Y ho hd hcd hmg hobj hints hlen hbits hg => ?_
  have KX := hY w _ Y
  obtain ⟨fd, hb, G, hG, hF⟩ := F w mg fa _ KX Gr.T.g hmg
  refine law_g KX Gr.T.g Gr.T.b Gr.T.builtins Gr.T.nolimit hg hobj hints (Nat.le_trans hlen hn2) hr hF hb fun H hS => ?_
  refine ⟨fun _ => False, [.scr ns], rfl, fun _ z => z.elim, .cons ?_ .nil, ?_⟩
  · unfold RepD
    refine ⟨a, rfl, ?_⟩
    rcases hS with ⟨o, e⟩ | e
    · exact .inl ⟨fun z => z, o, e⟩
    · rw [← hG] at e
      exact .inr e
  · rw [hΦ ns hlen hbits]
    intro v A' H' _ ro
    unfold RvOk at ro
    unfold RepD at ro
    exact ro
end Tk
/-! TkS1: tables of sets whose masks are 7, 31, 127, 511. -/
namespace TkS
open PySem L2

/-- a mask by whose round each slot is met from each -/
structure Msk (m : Nat) : Prop where
  odd : m % 2 = 1
  all : ∀ i j, i ≤ m → j ≤ m → ∃ k, k ≤ m ∧ lcgI m i k = j
/-- the round, written out -/
def rnd (m : Nat) : Nat → Nat → List Nat
  | 0, _ => []
  | n + 1, x => x :: rnd m n ((x * 5 + 1) % (m + 1))
theorem Msk.old {m : Nat} (h : MaskOk m) : Msk m := ⟨mask_odd h, fun i j hi hj => lcgI_all h hi hj⟩

variable {m : Nat}
theorem Msk.runs (M : Msk m) (h : Int) {j : Nat} (hj : j ≤ m) : ∃ n, n ≤ m + 12 ∧ runI m (SetTable.bits h) n = j := by
  obtain ⟨k, hk, e⟩ := M.all _ j (runI_le m (SetTable.bits h) 12) hj
  rw [← runI_tail (bits_lt h)] at e
  exact ⟨12 + k, by omega, e⟩
theorem Msk.meets (M : Msk m) (h : Int) {j : Nat} (hj : j ≤ m) : ∃ k, k < 10 * SetTable.turns m ∧ way m h k = j := by
  obtain ⟨n, hn, e⟩ := M.runs h hj
  obtain ⟨k, hk, e2⟩ := run_nth m (SetTable.bits h) n
  have ht : SetTable.turns m = m + 15 := rfl
  refine ⟨k, by omega, ?_⟩
  unfold way
  rw [e2, ← e]
  rfl
/-- each of the table's slots is found again from its hash -/
structure Tab (t : SetTable) (hs : List Int) : Prop where
  ris : Ris t.place.toList
  dm : t.dummies = #[]
  sz : t.place.size = hs.length
  ok : Msk t.mask
  bd : ∀ x, x ∈ t.place.toList → x ≤ t.mask
  on : ∀ (i : Nat) (g : Int) (j : Nat), hs[i]? = some g → t.place.toList[i]? = some j → ∃ n, way t.mask g n = j ∧ ∀ l, l < n → way t.mask g l ∈ t.place.toList
section
variable {t : SetTable} {hs : List Int}
theorem Tab.plen (T : Tab t hs) : t.place.toList.length = hs.length := by
  rw [Array.length_toList, T.sz]
theorem Tab.free (T : Tab t hs) (hl : hs.length ≤ t.mask) (g : Int) : ∃ N, N < 10 * SetTable.turns t.mask ∧ way t.mask g N ∉ t.place.toList ∧ ∀ n, n < N → way t.mask g n ∈ t.place.toList := by
  have hp := T.plen
  obtain ⟨j, j1, j2⟩ := st_missing t.place.toList (t.mask + 1) (by omega)
  obtain ⟨n, n1, n2⟩ := T.ok.meets g (show j ≤ t.mask by omega)
  obtain ⟨N, a, b, c⟩ := st_least (p := fun n => way t.mask g n ∉ t.place.toList) n (by rw [n2]; exact j2)
  exact ⟨N, by omega, b, fun l hl => Classical.not_not.mp (c l hl)⟩
theorem Tab.ahead (T : Tab t hs) {g : Int} {N i j : Nat} (hN : way t.mask g N ∉ t.place.toList) (hi : hs[i]? = some g) (hj : t.place.toList[i]? = some j) : ∃ n, n < N ∧ way t.mask g n = j := by
  obtain ⟨n, e, b⟩ := T.on i g j hi hj
  by_cases c : n < N
  · exact ⟨n, c, e⟩
  · exfalso
    by_cases d : n = N
    · subst d
      rw [e] at hN
      exact hN (List.mem_of_getElem? hj)
    · exact hN (b N (by omega))
end

/-! laying all anew -/
theorem Msk.open (M : Msk m) (ow : Array (Option Nat)) (g : Int) {j : Nat} (hj : j ≤ m) (hf : oAt ow j = none) :
    ∃ N, SetTable.layClean.free m ow (SetTable.turns m) (SetTable.bits g % (m + 1)) (SetTable.bits g) = some (way m g N) ∧ oAt ow (way m g N) = none ∧ ∀ n, n < N → oAt ow (way m g n) ≠ none := by
  obtain ⟨r, hr, e⟩ := M.runs g hj
  have hw : way m g (off m (SetTable.bits g % (m + 1)) (SetTable.bits g) r) = j := by
    unfold way
    rw [nth_off, itL_run, ← e]
    rfl
  obtain ⟨N, n1, n2, n3⟩ := st_least (p := fun n => oAt ow (way m g n) = none) _ (by rw [hw]; exact hf)
  have ht : SetTable.turns m = m + 15 := rfl
  refine ⟨N, free_spec m ow (SetTable.turns m) r _ _ N (by omega) n1 (fun n hn => ?_) (Option.isNone_iff_eq_none.mpr n2), n2, n3⟩
  cases z : oAt ow (way m g n) with
  | none => exact absurd z (n3 n hn)
  | some _ => rfl
end TkS
/-! TkS2: a set of tuples of texts and ints. -/
namespace TkS
open PySem PySem.Spec PyProof.Rows L2

abbrev kH (P : Program) (w : World) (k : List Key) : Int := tupleKeyHash (mixKind P w) k
abbrev IsK (P : Program) (w : World) (h : Heap) (k : List Key) (a : Addr) : Prop := IsTupleKey (mixKind P w) h k a
section
variable {P : Program} {w : World} {A : Around} {E : Value → Shared → Prop} {s : Shared}
/-- an int or a text -/
def IoS (v : Value) : Prop := (∃ i t, v = .int i t) ∨ ∃ x t, v = .str x t
theorem ios_of {k : List Key} {vs : List Value} (h : ItemsAre (mixKind P w) k vs) : ∀ v, v ∈ vs → IoS v := by
  induction h with
  | nil =>
    intro v hv
    cases hv
  | @cons k0 u ks us hu _ ih =>
    intro v hv
    rcases List.mem_cons.mp hv with rfl | hv
    · rcases keyIs_shape hu with ⟨i, t, _, e⟩ | ⟨x, t, _, e⟩
      · exact .inl ⟨i, t, e⟩
      · exact .inr ⟨x, t, e⟩
    · exact ih v hv
theorem cls_ios {n : Nat} {v : Value} (h : IoS v) : ofAClassStatement n v = pure false := by
  rcases h with ⟨i, t, rfl⟩ | ⟨x, t, rfl⟩ <;> cases n <;> rfl
theorem clsT {k : List Key} {b : Addr} {Q : Bool → Shared → Prop} (hk : IsK P w s.heap k b) (q : Q false s) : wpAny (model P w) A (ofAClassStatement 8 (.ref b)) Q E s := by
  have ty := hk.typeIs
  obtain ⟨o, its, n, ho, _, hd, hi⟩ := hk
  unfold ofAClassStatement
  refine wpAny_bind (wpAny_typeOf ty ?_)
  dsimp only
  simp only [show (("tuple" : String) == "tuple") = true by decide, if_true, Bool.not_true, Bool.false_eq_true, if_false]
  try refine wpAny_bind (wpAny_pure ?_)
  try simp only [Bool.not_true, Bool.false_eq_true, if_false]
  refine wpAny_bind (wpAny_seqItems ho hd ?_)
  dsimp only
  refine wpAny_bind ?_
  show wpAny _ _ (forIn its _ _) _ _ s
  rw [← Array.forIn_toList]
  refine wpAny_forIn_list _ (fun left r z => r.1 = none ∧ z = s ∧ ∀ v, v ∈ left → IoS v) _ ?_ ?_ _ _ ⟨rfl, rfl, ios_of hi⟩
  · rintro v left r z ⟨_, rfl, all⟩
    rw [cls_ios (all v List.mem_cons_self)]
    refine wpAny_bind (wpAny_pure ?_)
    simp only [Bool.false_eq_true, if_false]
    exact wpAny_pure ⟨rfl, rfl, fun y hy => all y (List.mem_cons_of_mem _ hy)⟩
  · rintro ⟨r1, r2⟩ z ⟨e, rfl, _⟩
    dsimp only at e
    subst e
    exact wpAny_pure q
/-! ### the set -/
abbrev KA := Addr × List Key
def rws (P : Program) (w : World) (L : List KA) : List (Int × Value) := L.map fun p => (kH P w p.2, Value.ref p.1)
structure SetS (P : Program) (w : World) (h : Heap) (a : Addr) (L : List KA) (es : Array (Int × Value)) (ep : Nat) (t : SetTable) : Prop where
  ob : ∃ o, h.get? a = some o ∧ o.ExactSet ∧ o.data = .set es ep t
  rows : es.toList = rws P w L
  tab : Tab t (L.map fun p => kH P w p.2)
  ms : t.mask = 7 ∨ t.mask = 31 ∨ t.mask = 127 ∨ t.mask = 511
  nd : (L.map (·.2)).Nodup
  tup : ∀ p, p ∈ L → IsK P w h p.2 p.1
  room : L.length * 5 < t.mask * 3
variable {a : Addr} {L : List KA} {es : Array (Int × Value)} {ep : Nat} {t : SetTable}
theorem rws_size (e : es.toList = rws P w L) : es.size = L.length := by
  have h := congrArg List.length e
  unfold rws at h
  rw [Array.length_toList, List.length_map] at h
  exact h
theorem SetS.size {h : Heap} (R : SetS P w h a L es ep t) : es.size = L.length := rws_size R.rows
theorem SetS.pl {h : Heap} (R : SetS P w h a L es ep t) : t.place.size = L.length := by
  have := R.tab.sz
  rw [List.length_map] at this
  exact this
theorem SetS.row {h : Heap} (R : SetS P w h a L es ep t) {i : Nat} {p : KA} (e : L[i]? = some p) : es[i]? = some (kH P w p.2, Value.ref p.1) := by
  rw [← Array.getElem?_toList, R.rows]
  unfold rws
  rw [List.getElem?_map, e]
  rfl
theorem SetS.stays {h : Heap} (R : SetS P w h a L es ep t) : ¬ t.gaveWay = true := by
  unfold SetTable.gaveWay
  rw [R.tab.ok.odd]
  decide
/-- the n-th step of the way of a hash -/
abbrev stp (m : Nat) (g : Int) (n : Nat) : SetTable.Probe := nth m (runAt m (SetTable.bits g % (m + 1)) (SetTable.bits g)) n
end
end TkS
/-! TkS3: adding to a set of tuples. -/
namespace TkS
open PySem PySem.Spec PyProof.Rows L2
section
variable {P : Program} {w : World} {A : Around} {E : Value → Shared → Prop} {s : Shared} {a : Addr} {L : List KA} {es : Array (Int × Value)} {ep : Nat} {t : SetTable}
end
end TkS
/-! TkS4: len(set(xs)) of a tuple of tuples of texts and ints. -/
namespace TkS
open PySem PySem.Spec PyProof.Rows L2
/-- what the set has of the first i -/
structure Has (ks : List KA) (i : Nat) (L : List KA) : Prop where
  sub : ∀ p, p ∈ L → p ∈ ks.take i
  all : ∀ p, p ∈ ks.take i → p.2 ∈ L.map (·.2)
  len : L.length ≤ i
theorem take1 {α : Type} {l : List α} {i : Nat} {x : α} (h : l[i]? = some x) : l.take (i + 1) = l.take i ++ [x] := by
  rw [List.take_succ, h]
  rfl
theorem Has.again {ks L : List KA} {i : Nat} {x : KA} (g : Has ks i L) (h : ks[i]? = some x) (m : x.2 ∈ L.map (·.2)) : Has ks (i + 1) L := by
  refine ⟨fun p hp => ?_, fun p hp => ?_, by have := g.len; omega⟩ <;> rw [take1 h] at *
  · exact List.mem_append_left _ (g.sub p hp)
  · rcases List.mem_append.mp hp with hp | hp
    · exact g.all p hp
    · cases List.mem_singleton.mp hp
      exact m
theorem Has.new {ks L L' : List KA} {i : Nat} {x : KA} (g : Has ks i L) (h : ks[i]? = some x) (pm : L'.Perm (x :: L)) : Has ks (i + 1) L' := by
  refine ⟨fun p hp => ?_, fun p hp => ?_, by have := g.len; rw [pm.length_eq, List.length_cons]; omega⟩
  · rw [take1 h]
    rcases List.mem_cons.mp (pm.mem_iff.mp hp) with rfl | hp
    · exact List.mem_append_right _ (List.mem_singleton.mpr rfl)
    · exact List.mem_append_left _ (g.sub p hp)
  · rw [take1 h] at hp
    rw [(pm.map (·.2)).mem_iff, List.map_cons]
    rcases List.mem_append.mp hp with hp | hp
    · exact List.mem_cons_of_mem _ (g.all p hp)
    · cases List.mem_singleton.mp hp
      exact List.mem_cons_self
section
variable {P : Program} {w : World} {A : Around} {E : Value → Shared → Prop} {s : Shared}
theorem SetS.on {h h' : Heap} {a : Addr} {L : List KA} {es : Array (Int × Value)} {ep : Nat} {t : SetTable} (R : SetS P w h a L es ep t) (kp : ∀ o, h.get? a = some o → h'.get? a = some o) (tp : ∀ p, p ∈ L → IsK P w h' p.2 p.1) : SetS P w h' a L es ep t := by
  obtain ⟨o, e, r⟩ := R.ob
  exact ⟨⟨o, kp o e, r⟩, R.rows, R.tab, R.ms, R.nd, tp, R.room⟩
abbrev set0 (w : World) : Obj := { cls := .type "set", dict := none, data := .set #[] 0 (.fresh 0 0 (!w.params.followText "set-order")) }
theorem SetS.fresh {h : Heap} {a : Addr} (e : h.get? a = some (set0 w)) : SetS P w h a [] #[] 0 (.fresh 0 0 (!w.params.followText "set-order")) where
  ob := ⟨_, e, ⟨rfl, rfl, rfl⟩, rfl⟩
  rows := rfl
  tab := ⟨List.Pairwise.nil, rfl, rfl, Msk.old (.inl rfl), (fun x hx => by cases hx), (fun i g j hi => by simp at hi)⟩
  ms := .inl rfl
  nd := List.nodup_nil
  tup := fun p hp => by cases hp
  room := by show 0 * 5 < 7 * 3; decide
end
end TkS
/-! Tk13: len(set(xs)) of tuples of texts and ints. -/
namespace Tk
open PySem PySem.Spec PyProof.Rows L2

def keyD : D → Option Key
  | .int i => some (.inl i)
  | .str x => some (.inr x)
  | _ => none
def keysD : List D → Option (List Key)
  | [] => some []
  | d :: l => match keyD d, keysD l with
    | some k, some r => some (k :: r)
    | _, _ => none
def tupK : D → Option (List Key)
  | .tup l => keysD l
  | _ => none
def tupsK : List D → Option (List (List Key))
  | [] => some []
  | d :: l => match tupK d, tupsK l with
    | some k, some r => some (k :: r)
    | _, _ => none
/-- each once -/
def once {α : Type} [DecidableEq α] : List α → List α
  | [] => []
  | x :: l => if x ∈ l then once l else x :: once l
def fLenSet : D → Option RV
  | .tup l => match tupsK l with
    | some ks => if l.length < 300 then some (.dat (.int ((once ks).length : Nat))) else none
    | none => none
  | .lst l => match tupsK l with
    | some ks => if l.length < 300 then some (.dat (.int ((once ks).length : Nat))) else none
    | none => none
  | _ => none
section
variable {G : Tb} {XR : XW} {W : WX} {X : Cx}
def tLenSetK (K : PySem.W.Frag) (ta : TE) : TE := fun σ H Q => ta σ H fun x H1 => ∃ (l : Addr) (ks : List TkS.KA), x = V.ref l ∧ (SqT K H1 l (ks.map fun p => V.ref p.1) ∨ SqL K H1 l (ks.map fun p => V.ref p.1)) ∧ (∀ p, p ∈ ks → SqT K H1 p.1 (p.2.map kV)) ∧ ks.length < 300 ∧ Q (.int ((once (ks.map (·.2))).length : Nat)) H1
end
end Tk
/-! Tk14: defs as values, and their calls. -/
namespace Tk
open PySem PySem.Spec PyProof.Rows L2
section
variable {G : Tb} {XR : XW} {W : WX} {X : Cx}
def cCallF (i n : Nat) (Φs : Nat → Option (List D → Option RR)) (a : AF) : EF := fun env => match (env[i]? : Option (Option Cell)) with
  | some (some (.dat (.fn j))) => match Φs j with
    | some Φ => cCall n Φ a env
    | none => none
  | _ => none
end
end Tk
/-! Tk15: list('..'). -/
namespace Tk
open PySem PySem.Spec PyProof.Rows L2
section
variable {G : Tb} {XR : XW} {W : WX} {X : Cx}
def rListS : List V → Hp → VK → Prop := fun xs H Q => ∃ z : Str, xs = [.str z] ∧ z.cps.size ≤ 1000000 ∧ ∀ l, H l = none → Q (.ref l) (upd H l (.lst (z.cps.toList.map fun c => V.str ⟨#[c]⟩)))
def fListA : D → Option RV
  | .lst l => some (.fresh (.lst l))
  | .tup l => some (.fresh (.lst l))
  | .str z => if szOk z.cps.size = true then some (.fresh (.lst (z.cps.toList.map fun c => .str ⟨#[c]⟩))) else none
  | _ => none
def rListA (K : PySem.W.Frag) : List V → Hp → VK → Prop := fun xs H Q => (∃ p ys, xs = [.ref p] ∧ (SqL K H p ys ∨ SqT K H p ys) ∧ ∀ l, H l = none → Q (.ref l) (upd H l (.lst ys))) ∨ rListS xs H Q
end
end Tk
/-! Tk16: defs whose parameters are handed in by name alone. -/
namespace Tk
open PySem PySem.Spec PyProof.Rows L2
structure FnI0 (P : Program) (w : World) (K : PySem.W.Frag) (mg : Str → Option Value) (base : Heap) (nm : Str) (k : Nat) (ps : List Str) (sp : Sp) (f : Addr) (fd : FuncData) : Prop where
  fn : FnG P w K mg base k f fd ps sp
  mg : mg nm = some (.ref f)
  kp : PySem.W.keepIn K (.ref f) = true
end Tk
namespace Tk
open PySem PySem.Spec PyProof.Rows L2
section
variable {G : Tb} {XR : XW} {W : WX} {X : Cx} {fx : List Nat}
/-- a < b < c as a value -/
def chV (F F' : D → D → Option RV) (h : EF) (o o' : Out) (e : Env) : Option (Rs Out) := bd (fin2 F e o o') fun z e1 => match z with
  | .dat (.bl true) => bd (h e1) fun o2 e2 => bd (fin2 F' e2 o' o2) fun z2 e3 => match z2 with
    | .dat (.bl b) => some (.ok (.dat (.bl b)) e3)
    | _ => none
  | .dat (.bl false) => some (.ok (.dat (.bl false)) e1)
  | _ => none
def cChainV (F F' : D → D → Option RV) (f g h : EF) : EF := fun env => bd (f env) fun o e => bd (g e) fun o' e' => chV F F' h o o' e'
end
end Tk
/-! TkZ: zip(a, b, strict=True) of two tuples of one length. -/
namespace TkZ
open PySem
abbrev ZipS (h : Heap) (z ti to : Addr) (f0 : Value) : Prop :=
  h.get? z = some { cls := .type "zip", dict := none, data := .fields #[f0, .bool false, .bool true, .ref ti, .ref to], slots := #[] }
section
variable {prog : Program} {w : World} {A : Around} {E : Value → Shared → Prop} {s : Shared}
end
end TkZ
/-! TkZ2: for x, y in zip(a, b, strict=True), a and b tuples of one length. -/
namespace TkZ
open PySem
section
variable {prog : Program} {w : World} {A : Around} {E : Value → Shared → Prop} {s : Shared}
end
abbrev zH1 (h : Heap) (a : Addr) : Heap := h.push { cls := .type "tuple_iterator", data := .fields #[.ref a, .int 0 0] }
abbrev zH2 (h : Heap) (a b : Addr) : Heap := (zH1 h a).push { cls := .type "tuple_iterator", data := .fields #[.ref b, .int 0 0] }
abbrev zH3 (h : Heap) (a b : Addr) : Heap := (zH2 h a b).push { cls := .type "tuple", data := .seq #[.ref h.objs.size, .ref (zH1 h a).objs.size] }
abbrev zH4 (h : Heap) (a b : Addr) : Heap := (zH3 h a b).push { cls := .type "tuple", data := .seq #[.none, .none] }
abbrev zH5 (h : Heap) (a b : Addr) : Heap := (zH4 h a b).push { cls := .type "zip", data := .fields #[.none, .bool false, .bool true, .ref (zH2 h a b).objs.size, .ref (zH3 h a b).objs.size] }
section
variable {prog : Program} {w : World} {A : Around} {E : Value → Shared → Prop} {s : Shared}
end
section
variable {M : Model} {A : Around} {E : Value → Shared → Prop} {s : Shared} {env : Env}
end
open PySem.Spec PyProof.Rows L2
/-- two tuples of one length, the items in new pairs -/
def ItzS (K : PySem.W.Frag) (a b : Addr) : It :=
  ⟨fun i H => ∃ (xs ys : List V) (x y : V), SqT K H a xs ∧ SqT K H b ys ∧ xs[i]? = some x ∧ ys[i]? = some y,
    fun i H v H' => ∃ (T : Addr) (x y : V) (o : Obj), v = .ref T ∧ H T = none ∧ o.dict = none ∧ H' = upd H T (.frz o (.tup [x, y])) ∧ (∀ xs, SqT K H a xs → xs[i]? = some x) ∧ ∀ ys, SqT K H b ys → ys[i]? = some y,
    fun i H => ∃ xs ys : List V, SqT K H a xs ∧ SqT K H b ys ∧ xs.length ≤ i ∧ ys.length ≤ i⟩
def iZipS (K : PySem.W.Frag) (ta : TA) : TI := fun σ H R => ta σ H fun vs H1 => ∃ a b xs ys, vs = [.ref a, .ref b] ∧ SqT K H1 a xs ∧ SqT K H1 b ys ∧ R (ItzS K a b) H1
end TkZ
/-! TkZ3: strict zip for mirrors. -/
namespace Tk
open PySem PySem.Spec PyProof.Rows L2
section
variable {G : Tb} {XR : XW} {W : WX} {X : Cx} {fx : List Nat}
def pairs (xs ys : List D) : List D := List.zipWith (fun x y => D.tup [x, y]) xs ys
def iZs (a : AF) : AF := fun env => bd (a env) fun ds e => match ds with
  | [.tup xs, .tup ys] => if xs.length = ys.length then some (.ok (pairs xs ys) e) else none
  | _ => none
end
end Tk
/-! Tk17: list.insert. -/
namespace Tk
open PySem PySem.Spec PyProof.Rows L2
section
variable {G : Tb} {XR : XW} {W : WX} {X : Cx} {fx : List Nat}
def fInsert (l ds : List D) : Option (D × List D) := match ds with
  | [.int i, d] => if szOk l.length = true ∧ small62 i = true ∧ 0 ≤ i then some (.non, l.take i.toNat ++ [d] ++ l.drop i.toNat) else none
  | _ => none
def rInsertT : V → List V → Hp → VK → Prop := fun x vs H Q => ∃ (l : Addr) (xs : List V) (i : Int) (y : V), x = .ref l ∧ vs = [.int i, y] ∧ H l = some (.lst xs) ∧ xs.length < sizeLine ∧ 0 ≤ i ∧ i < 2 ^ 63 ∧ Q .non (upd H l (.lst (xs.take i.toNat ++ [y] ++ xs.drop i.toNat)))
end
end Tk
/-! Tk18: own exceptions whose __init__ keeps fields: raised, and read where they are caught. -/
namespace Tk
open PySem PySem.Spec PyProof.Rows L2
/-- what the __init__ of such a class promises: its fields, the last one first -/
def spI (C : Addr) (ns : List Str) : Sp := fun vs H Q _ => ∃ (a : Addr) (ys : List V), vs = .ref a :: ys ∧ ys.length = ns.length ∧ H a = some (exo a C none) ∧
  ∀ d, H d = none → d ≠ a → Q .non (upd (upd H d (exd d (ns.zip ys).reverse)) a (exo a C (some d)))
theorem spI.len {C : Addr} {ns : List Str} {vs : List V} {H : Hp} {Q : VK} {E : XK} (h : spI C ns vs H Q E) : vs.length = ns.length + 1 := by
  obtain ⟨a, ys, rfl, hl, _⟩ := h
  rw [List.length_cons, hl]
/-- such a class, its __init__ -/
structure XnI (P : Program) (w : World) (K : PySem.W.Frag) (mg : Str → Option Value) (base : Heap) (C : Addr) (ns ps : List Str) (fI : Addr) (fd : FuncData) : Prop where
  T : OexC K C
  iC : PySem.W.findIn K (.ref C) "__init__" = some (some (.ref fI))
  tI : PySem.W.typeIn K (.ref fI) = some (.type "function")
  fn : FnOk P w K mg base (L2.CX P w) 1 fI fd ps (spI C ns)
  bd : Binds K fd ps []
theorem zip_rev {α β : Type} : ∀ {l : List α} {m : List β}, l.length = m.length → (l.zip m).reverse = l.reverse.zip m.reverse
  | [], [], _ => rfl
  | a :: l, b :: m, h => by
    have h : l.length = m.length := by simpa using h
    rw [List.zip_cons_cons, List.reverse_cons, List.reverse_cons, List.reverse_cons, zip_rev h, List.zip_append (by simpa using h)]
    rfl
  | [], _ :: _, h => by simp at h
  | _ :: _, [], h => by simp at h
theorem RepDs.reverse {G : Tb} {A : Hid} {H : Hp} : ∀ {ds : List D} {vs : List V}, RepDs G A H ds vs → RepDs G A H ds.reverse vs.reverse
  | [], _, h => by
    obtain rfl := h.inv0
    exact .nil
  | d :: ds, _, h => by
    obtain ⟨v, r, rfl, h1, h2⟩ := h.inv
    rw [List.reverse_cons, List.reverse_cons]
    exact h2.reverse.append (.cons h1 .nil)
section
variable {G : Tb} {W : WX} {X : Cx} {fx : List Nat}
/-- raise C(e, ..), with fields -/
def sRaiseF (k n : Nat) (a : AF) : SF := fun env => bd (a env) fun ds e => if ds.length = n then some (.ex ⟨k, ds.reverse⟩ e) else none
theorem passF {X : Cx} : Passes (L2.CX X.prog X.w) X (fun _ _ _ => False) := fun _ _ _ _ _ _ _ c => by
  obtain ⟨_, _, _, _, _, _, _, _, _, _, _, _, z⟩ := c
  exact z.elim
/-- e.f where e is caught -/
def cXf (i : Nat) (m : Nat → Option Nat) : EF := fun env => match (env[i]? : Option (Option Cell)) with
  | some (some (.exc x)) => match m x.cls with
    | some j => match x.fs[j]? with
      | some d => some (.ok (.dat d) env)
      | none => none
    | none => none
  | _ => none
theorem zip_lookup {α : Type} {f : Str} : ∀ {ns : List Str} {vs : List α} {j : Nat} {v : α}, ns.Nodup → ns[j]? = some f → vs[j]? = some v → (ns.zip vs).lookup f = some v
  | [], _, j, _, _, h, _ => by simp at h
  | n :: ns, [], j, _, _, _, h => by simp at h
  | n :: ns, w :: vs, 0, v, nd, h1, h2 => by
    have h1 : n = f := by simpa using h1
    have h2 : w = v := by simpa using h2
    subst h1 h2
    simp [List.lookup]
  | n :: ns, w :: vs, j + 1, v, nd, h1, h2 => by
    rw [List.nodup_cons] at nd
    have h1 : ns[j]? = some f := by simpa using h1
    have h2 : vs[j]? = some v := by simpa using h2
    have ne : (f == n) = false := by
      have : f ≠ n := fun z => nd.1 (z ▸ List.mem_of_getElem? h1)
      simpa using this
    simp only [List.zip_cons_cons, List.lookup, ne]
    exact zip_lookup nd.2 h1 h2
end
end Tk
/-! Tk19: x is True; xs[::-1] of lists. -/
namespace Tk
open PySem PySem.Spec PyProof.Rows L2
section
variable {G : Tb} {XR : XW} {W : WX} {X : Cx} {fx : List Nat}
def rIsB (neg : Bool) : R2 := fun x y H Q => ∃ a b, x = .bl a ∧ y = .bl b ∧ Q (.bl (neg ^^ decide (a = b))) H
def fIsB (neg : Bool) : D → D → Option RV
  | .bl a, .bl b => some (.dat (.bl (neg ^^ decide (a = b))))
  | _, _ => none
def gTpL (n : Nat) (gs : GFs) : GF := fun d env => match d with
  | .tup ds => if ds.length = n then gs ds env else none
  | .lst ds => if ds.length = n then gs ds env else none
  | _ => none
/-! xs[::-1] -/
def fRev : D → Option RV
  | .lst l => some (.fresh (.lst l.reverse))
  | _ => none
end
end Tk
/-! TkN: for k, x in enumerate(xs), xs a tuple or a list. -/
namespace TkN
open PySem
abbrev eT (h : Heap) (t : Addr) : Heap := h.push { cls := .type "tuple_iterator", data := .fields #[.ref t, .int 0 0] }
abbrev eE (h : Heap) (t : Addr) : Heap := (eT h t).push { cls := .type "enumerate", data := .fields #[.none, .bool false, .ref h.objs.size, rawInt 0, .none, .none] }
theorem meetsT (t : Addr) (xs : Array Value) (n : Nat) (dct : Option Addr) (sl : Array (Option Value)) :
    Meets (Builtin.«enumerate.__new__» ⟨[.type "enumerate", .ref t], []⟩) (fun _ R s => s.heap.get? t = some { cls := .type "tuple", dict := dct, data := .seq xs n, slots := sl } ∧ R (.ok (.ret (.ref (eT s.heap t).objs.size))) { s with heap := eE s.heap t }) :=
  .of_wp fun prog w A R s h => by
    obtain ⟨hp, g, d, tk, os⟩ := s
    obtain ⟨ht, h⟩ := h
    have sub := sub_enumerate
    have tup : Heap.IsTuple (Shared.heap ⟨hp, g, d, tk, os⟩) t xs := ⟨_, ht, rfl, n, rfl⟩
    wp_walk using AutoSeq1.wpAny_loadPart' ht
    refine wpAny_stack_any (fun st => wpAny_pure ?_)
    split
    · rename_i c _ _ _ _ _
      cases (c == Value.type "enumerate")
      · wp_walk using AutoSeq1.wpAny_loadPart' ht, wpAny_pyIter_tuple tup
        exact ⟨_, rfl, h⟩
      · wp_walk using AutoSeq1.wpAny_loadPart' ht, wpAny_pyIter_tuple tup
        exact ⟨_, rfl, h⟩
    · wp_walk using AutoSeq1.wpAny_loadPart' ht, wpAny_pyIter_tuple tup
      exact ⟨_, rfl, h⟩
theorem call_enumT {prog : Program} {w : World} {A : Around} {E : Value → Shared → Prop} {s : Shared} {t : Addr} {xs : Array Value} {Q : Value → Shared → Prop} (ht : s.heap.IsTuple t xs)
    (h : ∀ h', IsEnum h' (s.heap.objs.size + 1) s.heap.objs.size 0 .none → h'.IsTupleIter s.heap.objs.size t 0 → (∀ b o, s.heap.get? b = some o → h'.get? b = some o) → Q (.ref (s.heap.objs.size + 1)) { s with heap := h' }) :
    wpAny (model prog w) A (call (.type "enumerate") [.ref t]) Q E s := by
  obtain ⟨⟨c, dct, dt, sl⟩, hl, hc, n, hd⟩ := ht
  have hc : c = .type "tuple" := hc
  have hd : dt = .seq xs n := hd
  subst hc hd
  refine callType_new F.called_enumerate (by decide) (F.typeCall_enumerate_1 _) (F.newCall_enumerate_1 _) (fun obj => F.args_object_init_2 obj _) F.entry_enumerate_new (meetsT t xs n dct sl) ⟨hl, ?_⟩
  have n1 : (eT s.heap t).objs.size = s.heap.objs.size + 1 := Heap.size_push ..
  show _ ∧ _
  rw [n1]
  have he : IsEnum (eE s.heap t) (s.heap.objs.size + 1) s.heap.objs.size 0 .none := by
    have := Heap.get?_push_size (eT s.heap t) (o := { cls := .type "enumerate", data := .fields #[.none, .bool false, .ref s.heap.objs.size, rawInt 0, .none, .none] }) rfl
    rw [n1] at this
    exact this
  exact ⟨⟨_, he, rfl⟩, h _ he ⟨_, Heap.get?_push_of_some _ (Heap.get?_push_size _ rfl), rfl, rfl⟩ fun b o x => Heap.get?_push_of_some _ (Heap.get?_push_of_some _ x)⟩
open PySem.Spec PyProof.Rows L2
/-- the tuple at a, its items with their numbers in new pairs -/
def IteT (K : PySem.W.Frag) (a : Addr) : It :=
  ⟨fun i H => ∃ (xs : List V) (x : V), SqT K H a xs ∧ xs[i]? = some x, fun i H v H' => ∃ (T : Addr) (x : V) (o : Obj), v = .ref T ∧ H T = none ∧ o.dict = none ∧ H' = upd H T (.frz o (.tup [.int (i : Nat), x])) ∧ ∀ xs, SqT K H a xs → xs[i]? = some x, fun i H => ∃ xs : List V, SqT K H a xs ∧ xs.length = i⟩
theorem turn_enumT {P : Program} {w : World} {K : PySem.W.Frag} {elts : List Expr} {kk : Nat} {tpos : Pos} (a e it : Addr) (ha : a ≠ it) (hae : a ≠ e) :
    Turn P w K (.Tuple elts kk tpos) (IteT K a) [e, it] e (fun i h => (∃ old, IsEnum h e it ((i : Nat) : Int) old) ∧ h.IsTupleIter it a i ∧ e ≠ it) where
  mem := by simp
  obj := fun i h st b hb => by
    obtain ⟨⟨old, he⟩, ⟨o, ho, hc, hd⟩, _⟩ := st
    have e' : b = e ∨ b = it := by simpa using hb
    rcases e' with rfl | rfl
    · exact ⟨_, he, fun v q => nomatch q⟩
    · exact ⟨o, ho, fun v q => by rw [hd] at q; cases q⟩
  keep := fun i h h' st k => let ⟨⟨old, he⟩, hi, hne⟩ := st; ⟨⟨old, k e (by simp) _ he⟩, hi.at fun o q => k it (by simp) o q, hne⟩
  item := by
    intro X hP hw hK hc i pins s σ H E I hf st hg
    subst hP hw hK
    obtain ⟨⟨old, he⟩, hit, hne⟩ := st
    obtain ⟨xs, x, hq, hx⟩ := hg
    obtain ⟨us, rv, p, _⟩ := I.tuple hq
    obtain ⟨u, hu, ru⟩ := rv.get hx
    have hlt : i < us.toArray.size := by
      have := (List.getElem?_eq_some_iff.mp hu).1
      simpa using this
    have elt : e < s.heap.objs.size := Heap.lt_size he
    have ilt : it < s.heap.objs.size := by
      obtain ⟨_, q, _⟩ := hit
      exact Heap.lt_size q
    refine wpAny_pyNext_enum_itemD (Draws.tuple (A := X.A.in1) (by have := I.ok.hd hc; exact this) it a ha us.toArray) he ⟨hit, p⟩ hlt hne (by simp [hne, Ne.symm hae]) fun y h1 tk b1 b2 b3 b4 _ b6 => ?_
    have ey : y = u := by
      have h2 : us[i]? = some y := by simpa using b1
      rw [hu] at h2
      exact (Option.some.inj h2).symm
    subst ey
    refine ⟨_, rfl, wpAny_letOwnedTupleGo_enum (s := { s with heap := h1, toks := tk + 1 }) b2 fun h2 he2 sb => ?_⟩
    have pr : h2.get? s.heap.objs.size = some { cls := .type "tuple", data := .seq #[.int i tk, y] } := (sb.2 _ (Nat.ne_of_gt elt)).trans b4
    have fresh : ObjOk X.prog X.w (upd H s.heap.objs.size (.frz { cls := .type "tuple", data := .seq #[.int i tk, y] } (.tup [.int (i : Nat), x]))) h2 s.heap.objs.size (.frz { cls := .type "tuple", data := .seq #[.int i tk, y] } (.tup [.int (i : Nat), x])) := ⟨pr, by show 2 ≤ sizeLine; decide, [.int i tk, y], .cons ⟨_, rfl⟩ (.cons ru .nil), ⟨_, pr, rfl, _, rfl⟩⟩
    have J : Inv X pins σ (upd H s.heap.objs.size (.frz { cls := .type "tuple", data := .seq #[.int i tk, y] } (.tup [.int (i : Nat), x]))) { s with heap := h2, toks := tk + 1 } := I.turnedNew (ch := [e, it])
      (fun b o hb q => (sb.2 b (fun z => hb (by simp [z]))).trans (b6 b o (fun z => hb (by simp [z])) (fun z => hb (by simp [z])) q)) hf (Nat.le_refl _) fresh
    refine ⟨.ref s.heap.objs.size, _, J, rfl, ⟨_, x, _, rfl, I.hok.fresh (Nat.le_refl _), rfl, rfl, fun ys hy => by rw [I.tuple_inj hy hq]; exact hx⟩, ⟨⟨y, ?_⟩, b3.1.at fun o q => (sb.2 it (Ne.symm hne)).trans q, hne⟩, fun b hb => ?_⟩
    · rw [show ((i + 1 : Nat) : Int) = (i : Int) + 1 by omega]
      exact he2
    · have blt : b < s.heap.objs.size := by
        have e' : b = e ∨ b = it := by simpa using hb
        rcases e' with rfl | rfl
        · exact elt
        · exact ilt
      rw [upd_ne (Nat.ne_of_lt blt)]
      exact (hf b hb).1
  done := by
    intro X hP hw hK hc i pins s σ H E I hf st hg
    subst hP hw hK
    obtain ⟨⟨old, he⟩, hit, hne⟩ := st
    obtain ⟨xs, hq, hx⟩ := hg
    obtain ⟨us, rv, p, _⟩ := I.tuple hq
    obtain ⟨f0, f1, f2, f3, f4, f5⟩ := hf it (by simp)
    have hl : us.toArray.size = i := by
      have := rv.length
      simp
      omega
    subst hl
    exact wpAny_pyNext_enum_endD (Draws.tuple (A := X.A.in1) (by have := I.ok.hd hc; exact this) it a ha us.toArray) he ⟨hit, p⟩ fun h' eb => ⟨rfl, I.turned (t' := s.toks) (fun b o hb q => eb b o hb q) f0 f1 f3 f4 f5⟩
  self := fun A i s Q E st h => let ⟨⟨_, he⟩, _⟩ := st; wpAny_pyIter_enum he h
def iEnumT (K : PySem.W.Frag) (ta : TA) : TI := fun σ H R => ta σ H fun vs H1 => ∃ a xs, vs = [.ref a] ∧ SqT K H1 a xs ∧ R (IteT K a) H1
theorem pi_enumT {X : Cx} {e : Expr} {ta : TA} {p pos tpos : Pos} {elts : List Expr} {kk : Nat} (hg : Gl X "enumerate") (hm : X.mg "enumerate" = none) (ha : PA X [e] ta) (hs : starEach [e] X.env = [(false, eval e X.env)] := by rfl) :
    PI X (.Tuple elts kk tpos) (.Call (.Name "enumerate" p) [e] [] pos) (iEnumT X.K ta) := by
  refine ⟨fun pins s σ H R I h => Call_ (ld_blt I hg hm boot_enumerate (PyProof.Rows.callWith_type1 (thn (ha.run pos pins s σ H _ I h) fun us s1 ⟨vs, H1, J, r1, q1⟩ => ?_) hs rfl))⟩
  obtain ⟨a, xs, ex, hq, q⟩ := q1
  subst ex
  cases r1 with
  | cons r rr =>
  cases rr
  cases r
  obtain ⟨us, rv, p', _⟩ := J.tuple hq
  have alt : a < s1.heap.objs.size := by
    obtain ⟨o, ho, _⟩ := id p'
    exact Heap.lt_size ho
  refine call_enumT (show s1.heap.IsTuple a us.toArray from p') fun h' he hit hk => wpAny_pyIter_enum he ?_
  have J2 : Inv X pins σ H1 { s1 with heap := h' } := J.kept (t' := s1.toks) hk
  refine ⟨s1.heap.objs.size + 1, [s1.heap.objs.size + 1, s1.heap.objs.size], _, _, H1, rfl, J2, turn_enumT a (s1.heap.objs.size + 1) s1.heap.objs.size (Nat.ne_of_lt alt) (Nat.ne_of_lt (Nat.lt_succ_of_lt alt)), ⟨⟨.none, he⟩, hit, Nat.succ_ne_self _⟩, fun b hb => ?_, q⟩
  have e' : b = s1.heap.objs.size + 1 ∨ b = s1.heap.objs.size := by simpa using hb
  have hle : s1.heap.objs.size ≤ b := by
    rcases e' with rfl | rfl
    · exact Nat.le_succ _
    · exact Nat.le_refl _
  exact J.fpOk hle (J.hok.fresh hle)
/-- the list at a, its items with their numbers in new pairs -/
def IteL (K : PySem.W.Frag) (a : Addr) : It :=
  ⟨fun i H => ∃ (xs : List V) (x : V), SqL K H a xs ∧ xs[i]? = some x, fun i H v H' => ∃ (T : Addr) (x : V) (o : Obj), v = .ref T ∧ H T = none ∧ o.dict = none ∧ H' = upd H T (.frz o (.tup [.int (i : Nat), x])) ∧ ∀ xs, SqL K H a xs → xs[i]? = some x, fun i H => ∃ xs : List V, SqL K H a xs ∧ xs.length = i⟩
theorem turn_enumL {P : Program} {w : World} {K : PySem.W.Frag} {elts : List Expr} {kk : Nat} {tpos : Pos} (a e it : Addr) (ha : a ≠ it) (hae : a ≠ e) :
    Turn P w K (.Tuple elts kk tpos) (IteL K a) [e, it] e (fun i h => (∃ old, IsEnum h e it ((i : Nat) : Int) old) ∧ h.IsListIter it a i ∧ e ≠ it) where
  mem := by simp
  obj := fun i h st b hb => by
    obtain ⟨⟨old, he⟩, ⟨o, ho, hc, hd⟩, _⟩ := st
    have e' : b = e ∨ b = it := by simpa using hb
    rcases e' with rfl | rfl
    · exact ⟨_, he, fun v q => nomatch q⟩
    · exact ⟨o, ho, fun v q => by rw [hd] at q; cases q⟩
  keep := fun i h h' st k => let ⟨⟨old, he⟩, hi, hne⟩ := st; ⟨⟨old, k e (by simp) _ he⟩, hi.at fun o q => k it (by simp) o q, hne⟩
  item := by
    intro X hP hw hK hc i pins s σ H E I hf st hg
    subst hP hw hK
    obtain ⟨⟨old, he⟩, hit, hne⟩ := st
    obtain ⟨xs, x, hq, hx⟩ := hg
    obtain ⟨us, rv, p0, _⟩ := I.list hq
    have p := p0.isList
    obtain ⟨u, hu, ru⟩ := rv.get hx
    have hlt : i < us.toArray.size := by
      have := (List.getElem?_eq_some_iff.mp hu).1
      simpa using this
    have elt : e < s.heap.objs.size := Heap.lt_size he
    have ilt : it < s.heap.objs.size := by
      obtain ⟨_, q, _⟩ := hit
      exact Heap.lt_size q
    refine wpAny_pyNext_enum_itemD (Draws.list (A := X.A.in1) (by have := I.ok.hd hc; exact this) it a ha us.toArray) he ⟨hit, p⟩ hlt hne (by simp [hne, Ne.symm hae]) fun y h1 tk b1 b2 b3 b4 _ b6 => ?_
    have ey : y = u := by
      have h2 : us[i]? = some y := by simpa using b1
      rw [hu] at h2
      exact (Option.some.inj h2).symm
    subst ey
    refine ⟨_, rfl, wpAny_letOwnedTupleGo_enum (s := { s with heap := h1, toks := tk + 1 }) b2 fun h2 he2 sb => ?_⟩
    have pr : h2.get? s.heap.objs.size = some { cls := .type "tuple", data := .seq #[.int i tk, y] } := (sb.2 _ (Nat.ne_of_gt elt)).trans b4
    have fresh : ObjOk X.prog X.w (upd H s.heap.objs.size (.frz { cls := .type "tuple", data := .seq #[.int i tk, y] } (.tup [.int (i : Nat), x]))) h2 s.heap.objs.size (.frz { cls := .type "tuple", data := .seq #[.int i tk, y] } (.tup [.int (i : Nat), x])) := ⟨pr, by show 2 ≤ sizeLine; decide, [.int i tk, y], .cons ⟨_, rfl⟩ (.cons ru .nil), ⟨_, pr, rfl, _, rfl⟩⟩
    have J : Inv X pins σ (upd H s.heap.objs.size (.frz { cls := .type "tuple", data := .seq #[.int i tk, y] } (.tup [.int (i : Nat), x]))) { s with heap := h2, toks := tk + 1 } := I.turnedNew (ch := [e, it])
      (fun b o hb q => (sb.2 b (fun z => hb (by simp [z]))).trans (b6 b o (fun z => hb (by simp [z])) (fun z => hb (by simp [z])) q)) hf (Nat.le_refl _) fresh
    refine ⟨.ref s.heap.objs.size, _, J, rfl, ⟨_, x, _, rfl, I.hok.fresh (Nat.le_refl _), rfl, rfl, fun ys hy => by rw [I.list_inj hy hq]; exact hx⟩, ⟨⟨y, ?_⟩, b3.1.at fun o q => (sb.2 it (Ne.symm hne)).trans q, hne⟩, fun b hb => ?_⟩
    · rw [show ((i + 1 : Nat) : Int) = (i : Int) + 1 by omega]
      exact he2
    · have blt : b < s.heap.objs.size := by
        have e' : b = e ∨ b = it := by simpa using hb
        rcases e' with rfl | rfl
        · exact elt
        · exact ilt
      rw [upd_ne (Nat.ne_of_lt blt)]
      exact (hf b hb).1
  done := by
    intro X hP hw hK hc i pins s σ H E I hf st hg
    subst hP hw hK
    obtain ⟨⟨old, he⟩, hit, hne⟩ := st
    obtain ⟨xs, hq, hx⟩ := hg
    obtain ⟨us, rv, p0, _⟩ := I.list hq
    have p := p0.isList
    obtain ⟨f0, f1, f2, f3, f4, f5⟩ := hf it (by simp)
    have hl : us.toArray.size = i := by
      have := rv.length
      simp
      omega
    subst hl
    exact wpAny_pyNext_enum_endD (Draws.list (A := X.A.in1) (by have := I.ok.hd hc; exact this) it a ha us.toArray) he ⟨hit, p⟩ fun h' eb => ⟨rfl, I.turned (t' := s.toks) (fun b o hb q => eb b o hb q) f0 f1 f3 f4 f5⟩
  self := fun A i s Q E st h => let ⟨⟨_, he⟩, _⟩ := st; wpAny_pyIter_enum he h
def iEnumL (K : PySem.W.Frag) (ta : TA) : TI := fun σ H R => ta σ H fun vs H1 => ∃ a xs, vs = [.ref a] ∧ SqL K H1 a xs ∧ R (IteL K a) H1
theorem pi_enumL {X : Cx} {e : Expr} {ta : TA} {p pos tpos : Pos} {elts : List Expr} {kk : Nat} (hg : Gl X "enumerate") (hm : X.mg "enumerate" = none) (ha : PA X [e] ta) (hs : starEach [e] X.env = [(false, eval e X.env)] := by rfl) :
    PI X (.Tuple elts kk tpos) (.Call (.Name "enumerate" p) [e] [] pos) (iEnumL X.K ta) := by
  refine ⟨fun pins s σ H R I h => Call_ (ld_blt I hg hm boot_enumerate (PyProof.Rows.callWith_type1 (thn (ha.run pos pins s σ H _ I h) fun us s1 ⟨vs, H1, J, r1, q1⟩ => ?_) hs rfl))⟩
  obtain ⟨a, xs, ex, hq, q⟩ := q1
  subst ex
  cases r1 with
  | cons r rr =>
  cases rr
  cases r
  obtain ⟨us, rv, p0, _⟩ := J.list hq
  have p' := p0.isList
  have alt : a < s1.heap.objs.size := p0.lt
  refine call_enumerate_list p' fun h' he hit _ hk => wpAny_pyIter_enum he ?_
  have J2 : Inv X pins σ H1 { s1 with heap := h' } := J.kept (t' := s1.toks) hk
  refine ⟨s1.heap.objs.size + 1, [s1.heap.objs.size + 1, s1.heap.objs.size], _, _, H1, rfl, J2, turn_enumL a (s1.heap.objs.size + 1) s1.heap.objs.size (Nat.ne_of_lt alt) (Nat.ne_of_lt (Nat.lt_succ_of_lt alt)), ⟨⟨.none, he⟩, hit, Nat.succ_ne_self _⟩, fun b hb => ?_, q⟩
  have e' : b = s1.heap.objs.size + 1 ∨ b = s1.heap.objs.size := by simpa using hb
  have hle : s1.heap.objs.size ≤ b := by
    rcases e' with rfl | rfl
    · exact Nat.le_succ _
    · exact Nat.le_refl _
  exact J.fpOk hle (J.hok.fresh hle)
end TkN
namespace Tk
open PySem PySem.Spec PyProof.Rows L2
section
variable {G : Tb} {XR : XW} {W : WX} {X : Cx} {fx : List Nat}
/-- with their numbers -/
def numd (i : Nat) : List D → List D
  | [] => []
  | x :: l => .tup [.int (i : Int), x] :: numd (i + 1) l
theorem numd_len : ∀ (l : List D) (i : Nat), (numd i l).length = l.length
  | [], _ => rfl
  | _ :: l, i => by
    unfold numd
    rw [List.length_cons, List.length_cons, numd_len l]
theorem numd_get : ∀ (l : List D) (i j : Nat), (numd i l)[j]? = (l[j]?).map fun x => D.tup [.int ((i + j : Nat) : Int), x]
  | [], _, _ => by simp [numd]
  | x :: l, i, 0 => by simp [numd]
  | x :: l, i, j + 1 => by
    unfold numd
    rw [List.getElem?_cons_succ, numd_get l, List.getElem?_cons_succ, show i + 1 + j = i + (j + 1) by omega]
def iEn (a : AF) : AF := fun env => bd (a env) fun ds e => match ds with
  | [.tup xs] => some (.ok (numd 0 xs) e)
  | [.lst xs] => some (.ok (numd 0 xs) e)
  | _ => none
theorem it_enumT {A : Hid} {H : Hp} {a : Addr} {vs : List V} {xs : List D} (t : TupOk A H) (h1 : SqT G.K H a vs) (r1 : RepDs G A H xs vs) : ItOk G (TkN.IteT G.K a) A H (numd 0 xs) := fun A2 H2 t2 s => by
  have q1 := s.sqT t h1
  have k1 := RepDs.mono s t _ _ r1
  refine ⟨fun i d e => ?_, vs, q1, by rw [numd_len, r1.length]⟩
  rw [numd_get, Nat.zero_add] at e
  cases ex : xs[i]? with
  | none =>
    rw [ex] at e
    cases e
  | some x =>
    rw [ex] at e
    cases e
    obtain ⟨v, e1, m1⟩ := k1.get ex
    refine ⟨⟨vs, v, q1, e1⟩, fun z H3 yl => ?_⟩
    obtain ⟨T, x', ob, rfl, n, hd, rfl, f1⟩ := yl
    have e3 := f1 vs q1
    rw [e1] at e3
    cases e3
    exact ⟨Ext.newTup t2 n _, rv_tup t2 (.cons rep_int (.cons m1 .nil)) n hd⟩
theorem it_enumL {A : Hid} {H : Hp} {a : Addr} {vs : List V} {xs : List D} (t : TupOk A H) (h1 : SeenL G A H a vs) (r1 : RepDs G A H xs vs) : ItOk G (TkN.IteL G.K a) A H (numd 0 xs) := fun A2 H2 t2 s => by
  have h2 : SeenL G A2 H2 a vs := ⟨(s a _ h1.2 h1.1).2, (s a _ h1.2 h1.1).1⟩
  have q1 : SqL G.K H2 a vs := h2.sq
  have k1 := RepDs.mono s t _ _ r1
  refine ⟨fun i d e => ?_, vs, q1, by rw [numd_len, r1.length]⟩
  rw [numd_get, Nat.zero_add] at e
  cases ex : xs[i]? with
  | none =>
    rw [ex] at e
    cases e
  | some x =>
    rw [ex] at e
    cases e
    obtain ⟨v, e1, m1⟩ := k1.get ex
    refine ⟨⟨vs, v, q1, e1⟩, fun z H3 yl => ?_⟩
    obtain ⟨T, x', ob, rfl, n, hd, rfl, f1⟩ := yl
    have e3 := f1 vs q1
    rw [e1] at e3
    cases e3
    exact ⟨Ext.newTup t2 n _, rv_tup t2 (.cons rep_int (.cons m1 .nil)) n hd⟩
theorem ei_enum {e : Expr} {f : AF} {p pos tpos : Pos} {elts : List Expr} {kk : Nat} (hk : X.K = G.K) (hg : Gl X "enumerate") (hm : X.mg "enumerate" = none) (ha : PA X [e] (tEvA G XR W f)) (hs : starEach [e] X.env = [(false, eval e X.env)] := by rfl) :
    PI X (.Tuple elts kk tpos) (.Call (.Name "enumerate" p) [e] [] pos) (tEvI G XR W (iEn f)) :=
  PI_imp (PI_or (TkN.pi_enumT hg hm ha hs) (TkN.pi_enumL hg hm ha hs)) fun σ H Rr ⟨A, env, R, p⟩ => by
    cases hf : f env with
    | none =>
      unfold iEn at p
      rw [hf] at p
      exact p.elim
    | some r =>
      cases r with
      | ex y e1 =>
        unfold iEn at p
        rw [hf] at p
        refine .inl ⟨A, env, R, ?_⟩
        rw [hf]
        exact p
      | ok ds e1 =>
        have p' := p
        unfold iEn at p'
        rw [hf, bd_ok] at p'
        split at p'
        · rename_i xs
          refine .inl ⟨A, env, R, ?_⟩
          rw [hf]
          intro A1 H1 R1 F1 vs k1
          obtain ⟨v, r, rfl, h1, h2⟩ := k1.inv
          obtain rfl := h2.inv0
          unfold RepD at h1
          obtain ⟨a, vs, rfl, s1, d1⟩ := h1
          exact ⟨a, vs, rfl, by rw [hk]; exact s1.t, p' A1 H1 R1 F1 _ (by rw [hk]; exact it_enumT R1.tup s1.t d1)⟩
        · rename_i xs
          refine .inr ⟨A, env, R, ?_⟩
          rw [hf]
          intro A1 H1 R1 F1 vs k1
          obtain ⟨v, r, rfl, h1, h2⟩ := k1.inv
          obtain rfl := h2.inv0
          unfold RepD at h1
          obtain ⟨a, vs, rfl, s1, d1⟩ := h1
          exact ⟨a, vs, rfl, by rw [hk]; exact s1.sq, p' A1 H1 R1 F1 _ (by rw [hk]; exact it_enumL R1.tup s1 d1)⟩
        · exact p'.elim
end
end Tk
/-! TkV: t[::-1] of tuples. -/
namespace TkV
open PySem
section
variable {prog : Program} {w : World} {A : Around} {E : Value → Shared → Prop} {s : Shared}
end
open PySem.Spec PyProof.Rows L2
def tRevT (K : PySem.W.Frag) (te : TE) : TE := fun σ H Q => te σ H fun x H1 => ∃ a xs, x = .ref a ∧ SqT K H1 a xs ∧ Tk.NewT H1 Q xs.reverse
end TkV
namespace Tk
open PySem PySem.Spec PyProof.Rows L2
section
variable {G : Tb} {XR : XW} {W : WX} {X : Cx} {fx : List Nat}
def fRevT : D → Option RV
  | .tup l => some (.dat (.tup l.reverse))
  | _ => none
end
end Tk
/-! Tk20: instances: fields read, methods called, instances made anew, a field set. -/
namespace Tk
open PySem PySem.Spec PyProof.Rows L2
theorem RepT.obj {G : Tb} {A : Hid} {H : Hp} {c : Nat} {l : List D} {x : V} (h : RepT G A H (.obj c l) x) : ∃ a C dx ns vs, x = .ref a ∧ H a = some (.ins C dx (ns.zip vs)) ∧ G.cls c = some (C, ns) ∧ ns.length = vs.length ∧ RepDs G A H l vs := by
  rcases h with h | ⟨p, rfl, _, C, dx, ns, vs, e, hc, z, r⟩
  · unfold RepD at h
    obtain ⟨a, C, dx, ns, vs, e, _, q, k, z, r⟩ := h
    exact ⟨a, C, dx, ns, vs, e, q, k, z, r⟩
  · exact ⟨p, C, dx, ns, vs, rfl, e, hc, z, r⟩
section
variable {G : Tb} {XR : XW} {W : WX} {X : Cx} {fx : List Nat}
/-! ### a field -/
def fFld (m : Nat → Option Nat) : D → Option RV
  | .obj c l => match m c with
    | some j => match l[j]? with
      | some d => some (.dat d)
      | none => none
    | none => none
  | _ => none
def FldOk (G : Tb) (f : Str) (m : Nat → Option Nat) : Prop := ∀ c j, m c = some j → ∃ C ns, G.cls c = some (C, ns) ∧ Cls G.K C ∧ NoAttr G.K C f ∧ ns.Nodup ∧ ns[j]? = some f
/-! ### a method -/
def MethOk (G : Tb) (mn : Str) (f : Addr) (tab : Nat → Bool) : Prop := ∀ c, tab c = true → ∃ C ns, G.cls c = some (C, ns) ∧ Cls G.K C ∧ Meth G.K C mn f ∧ mn ∉ ns
def cMe (tab : Nat → Bool) (n np m : Nat) (Φ : List D → Option RR) (pm : List Nat) (dd : List D) (o : EF) (a kw : AF) : EF := fun env => bd (cUse o env) fun d e => match d with
  | .obj c l => if tab c = true then bd (a e) fun ds e1 => bd (kw e1) fun zs e2 =>
      if ds.length + 1 = np ∧ zs.length = m ∧ (pick pm (.obj c l :: ds ++ zs ++ dd)).length = n then callK (Φ (pick pm (.obj c l :: ds ++ zs ++ dd))) e2 else none
    else none
  | _ => none
section
variable {k n np m : Nat} {f : Addr} {fd : FuncData} {ps ks : List Str} {sp : Sp} {Φ : List D → Option RR} {mn : Str} {p pos apos : Pos} {o e : Expr} {es : List Expr} {kws : List Keyword} {ta : TE} {t tk : TA} {pm : List Nat} {dv : List Value} {dvs : List V} {dd : List D} {pl : Sem Bool}
/-- what is read of a method call -/
def tMeG (K : PySem.W.Frag) (mn : Str) (f : Addr) (sp : Sp) (np m : Nat) (pm : List Nat) (dvs : List V) (W : WX) (ta : TE) (t tk : TA) : TE := fun σ H Q => ta σ H fun x H1 => ∃ a C dx fs, x = .ref a ∧ H1 a = some (.ins C dx fs) ∧ Cls K C ∧ Meth K C mn f ∧ fs.lookup mn = none ∧
  t σ H1 fun vs H2 => tk σ H2 fun zs H3 => vs.length + 1 = np ∧ zs.length = m ∧ sp (pick pm (x :: vs ++ zs ++ dvs)) H3 Q fun c d H' => W c d σ H'
end
end
end Tk
/-! Tk21: instances made anew; a field set. -/
namespace Tk
open PySem PySem.Spec PyProof.Rows L2
section
variable {G : Tb} {XR : XW} {W : WX} {X : Cx} {fx : List Nat}
variable {k n np m : Nat} {f C : Addr} {fd : FuncData} {ps ks : List Str} {sp : Sp} {Φ : D → List D → Option RM} {x : Str} {p pos apos : Pos} {o e : Expr} {es : List Expr} {kws : List Keyword} {ta : TE} {t tk : TA} {pm : List Nat} {dv : List Value} {dvs : List V} {dd : List D}
def tMkG (C : Addr) (sp : Sp) (np m : Nat) (pm : List Nat) (dvs : List V) (W : WX) (t tk : TA) : TE := fun σ H Q => t σ H fun vs H1 => tk σ H1 fun zs H2 => vs.length = np ∧ zs.length = m ∧
  ∀ x dx, H2 x = none → H2 dx = none → dx ≠ x → sp (.ref x :: pick pm (vs ++ zs ++ dvs)) (upd (upd H2 dx (.own x)) x (.ins C dx [])) (fun v H3 => v = .non ∧ Q (.ref x) H3) (fun c d H' => W c d σ H')
def makeK (r : Option RM) (e : Env) : Option (Rs Out) := match r with
  | some (.ok (.dat .non) d) => some (.ok (.fresh d) e)
  | some (.ex x _) => some (.ex x e)
  | _ => none
def cMake (c0 n np m : Nat) (Φ : D → List D → Option RM) (pm : List Nat) (dd : List D) (a kw : AF) : EF := fun env => bd (a env) fun ds e => bd (kw e) fun zs e2 =>
  if ds.length = np ∧ zs.length = m ∧ (pick pm (ds ++ zs ++ dd)).length + 1 = n then makeK (Φ (.obj c0 []) (pick pm (ds ++ zs ++ dd))) e2 else none
end
section
variable {G : Tb} {XR : XW} {W : WX} {X : Cx} {fx : List Nat} {k n np m : Nat} {f C : Addr} {fd : FuncData} {ps ks : List Str} {Φ : List D → Option RR} {mn : Str} {p pos apos : Pos} {o e : Expr} {es : List Expr} {kws : List Keyword} {pm : List Nat} {dv : List Value} {dvs : List V} {dd : List D} {pl : Sem Bool} {tab : Nat → Bool} {g : EF} {a kw : AF}
end
section
variable {G : Tb} {XR : XW} {W : WX} {X : Cx} {fx : List Nat}
/-! ### a field set -/
def putO (m : Nat → Option (Nat × Nat)) (d : D) : D → Option D
  | .obj c l => match m c with
    | some (j, c') => if j < l.length then (if c' = c then some (.obj c (l.set j d)) else none) else if j = l.length then some (.obj c' (l ++ [d])) else none
    | none => none
  | _ => none
def FSetOk (G : Tb) (f : Str) (m : Nat → Option (Nat × Nat)) : Prop := ∀ c j c', m c = some (j, c') → ∃ C ns, G.cls c = some (C, ns) ∧ Cls G.K C ∧ NoAttr G.K C f ∧ ns.Nodup ∧ ns.length < 900 ∧ ((ns[j]? = some f ∧ c' = c) ∨ (j = ns.length ∧ f ∉ ns ∧ G.cls c' = some (C, ns ++ [f])))
def sFldSet (i : Nat) (m : Nat → Option (Nat × Nat)) (f : EF) : SF := fun env => bd (cUse f env) fun d e => match ownAt e i with
  | some o => match putO m d o with
    | some o' => some (.ok .next (e.set i (some (.own o'))))
    | none => none
  | none => none
theorem ExtBut.ins {A : Hid} {H : Hp} {p : Addr} (t : TupOk A H) (a : A p) (C dx : Addr) (fs : List (Str × V)) : ExtBut p A H A (upd H p (.ins C dx fs)) := by
  refine ⟨fun b o e n => ⟨by rw [upd_ne n]; exact e, Iff.rfl⟩, fun q hq => ?_, a⟩
  by_cases h : q = p
  · subst h
    exact ⟨_, upd_same .., (fun _ z => by cases z), fun _ _ z => by cases z⟩
  · obtain ⟨o, h1, h2, h3⟩ := t q hq
    exact ⟨o, by rw [upd_ne h]; exact h1, h2, h3⟩
end
end Tk
/-! Tk22: defs with defaults, methods as defs, isinstance with an own class, == by an own __eq__. -/
namespace Tk
open PySem PySem.Spec PyProof.Rows L2
/-- a def as it stands behind the top, its defaults open -/
structure FunX (K : PySem.W.Frag) (x qual : Str) (st : Stmt) (f : Addr) (fd : FuncData) : Prop where
  ex : ∃ (oc : Value) (od : Option Addr) (dV kV doc pm : Value) (an : Option Addr) (cdv ct : Value) (osl : Array (Option Value)),
    fd = PySem.W.fnOf x qual (defArgs st) (defBody st) (defScope st) dV kV doc pm an cdv ct ∧ K.lookup f = some ⟨oc, od, .func fd, osl⟩ ∧ PySem.W.codeIn K cdv qual = true
section
variable {P : Program} {w : World} {K : PySem.W.Frag} {mg : Str → Option Value} {base : Heap}
variable {G : Tb} {XR : XW}
/-- a method -/
structure FnM (P : Program) (w : World) (K : PySem.W.Frag) (mg : Str → Option Value) (base : Heap) (C : Addr) (nm : Str) (k : Nat) (ps : List Str) (sp : Sp) (f : Addr) (fd : FuncData) : Prop where
  fn : FnG P w K mg base k f fd ps sp
  me : Meth K C nm f
/-- an __init__ -/
structure FnC (P : Program) (w : World) (K : PySem.W.Frag) (mg : Str → Option Value) (base : Heap) (C : Addr) (k : Nat) (ps : List Str) (sp : Sp) (f : Addr) (fd : FuncData) : Prop where
  fn : FnG P w K mg base k f fd ps sp
  mkc : Mk K C f
end
section
variable {G : Tb} {XR : XW} {W : WX} {X : Cx}
/-! ### isinstance with an own class -/
def fIsC (m : Nat → Option Bool) (d : D) : Option RV := match d with
  | .obj c _ => match m c with
    | some b => some (.dat (.bl b))
    | none => none
  | d => match tyName d with
    | some _ => some (.dat (.bl false))
    | none => none
structure IsCOk (G : Tb) (C : Addr) (m : Nat → Option Bool) : Prop where
  blt : ∀ d a, tyName d = some a → PySem.W.kitOne G.K (.type a) (.ref C) = some false
  own : ∀ c b, m c = some b → ∃ C' ns, G.cls c = some (C', ns) ∧ (∀ (H : Hp) a dx fs, H a = some (.ins C' dx fs) → TyX G.K H (.ref a) (.ref C')) ∧ PySem.W.kitOne G.K (.ref C') (.ref C) = some b
end
end Tk
/-! Tk23: == and != by an own __eq__. -/
namespace Tk
open PySem PySem.Spec PyProof.Rows L2
section
variable {M : Model} {prog : Program} {w : World} {A : Around} {E : Value → Shared → Prop} {s : Shared} {K : PySem.W.Frag} {x C f : Addr} {ox : Obj} {od : Option Obj}
end
section
variable {G : Tb} {XR : XW} {W : WX} {X : Cx} {k : Nat} {f C : Addr} {fd : FuncData} {ps : List Str} {sp : Sp}
/-- what is asked of a comparison by the own __eq__ -/
def rOwn (K : PySem.W.Frag) (C : Addr) (sp : Sp) (neg : Bool) : R2 := fun x y H Q => ∃ a dx fs t, x = .ref a ∧ H a = some (.ins C dx fs) ∧ TyX K H y t ∧ PySem.W.notFirst K C t = true ∧ sp [x, y] H (fun v H' => ∃ b, v = .bl b ∧ Q (.bl (neg ^^ b)) H') fun _ _ _ => False
/-! ### as an operation of data -/
def okR (m : Nat → Option Bool) (e : D) : Bool := match e with
  | .obj c _ => (m c).isSome
  | e => (tyName e).isSome
def fEqO (tab : Nat → Bool) (m : Nat → Option Bool) (Φ : List D → Option RR) (neg : Bool) (d e : D) : Option RV := match d with
  | .obj c l => if tab c = true ∧ okR m e = true then (match Φ [.obj c l, e] with
      | some (.ok (.dat (.bl b))) => some (.dat (.bl (neg ^^ b)))
      | _ => none) else none
  | d => eqF neg d e
/-- what must be known of the classes -/
structure EqOk (G : Tb) (C : Addr) (tab : Nat → Bool) (m : Nat → Option Bool) : Prop where
  own : ∀ c, tab c = true → ∃ ns, G.cls c = some (C, ns)
  is : IsCOk G C m
  blt : ∀ d a, tyName d = some a → PySem.W.notFirst G.K C (.type a) = true
  ins : ∀ c b, m c = some b → ∃ C' ns, G.cls c = some (C', ns) ∧ PySem.W.notFirst G.K C (.ref C') = true
/-- let go of what two values hold -/
theorem RepT.free {A A' : Hid} {H : Hp} {d : D} {x : V} (t : TupOk A H) (h : RepT G A H d x) (hA : ∀ a, A' a → A a) (hx : ∀ p, x = .ref p → ¬ A' p) : RepD G A' H d x := by
  rcases h with h | ⟨p, rfl, _, h⟩
  · exact RepD.mono (sub_stab hA) t _ _ h
  · exact (h.mono (sub_stab hA) t fun _ e => e).dat (hx p rfl)
theorem OpR_or {f : Value → Value → Sem Value} {r r' : R2} (h : OpR X f r) (h' : OpR X f r') : OpR X f (fun x y H Q => r x y H Q ∨ r' x y H Q) := fun pins s σ H x y v u Q I r1 r2 q =>
  q.elim (fun q => h pins s σ H x y v u Q I r1 r2 q) fun q => h' pins s σ H x y v u Q I r1 r2 q
end
end Tk
/-! Tk24: lists and tuples so many times. -/
namespace Tk
open PySem PySem.Spec PyProof.Rows L2
theorem tup_once (l : Addr) (items : Array Value) (n : Nat) (sl : Array (Option Value)) (dd : Option Addr) (u : Tok) :
    Meets (Builtin.«tuple.__mul__» ⟨[.ref l, .int 1 u], []⟩) (fun _ R s => s.heap.get? l = some { cls := .type "tuple", dict := dd, data := .seq items n, slots := sl } ∧ R (.ok (.ret (.ref l))) s) :=
  .of_wp fun prog w A R s h => by
    obtain ⟨hp, g, d, tk, os⟩ := s
    obtain ⟨hl, h⟩ := h
    have f1 := AutoSeq1.idx_int
    have c0 : (decide ((1 : Int) < -(2 ^ 63)) || decide ((1 : Int) ≥ 2 ^ 63)) = false := by decide
    wp_walk using wpAny_loadPart' hl
    repeat (first
      | (refine wpAny_ite_false (decide_eq_false (by rw [c0]; exact Bool.false_ne_true)) ?_; wp_walk using wpAny_loadPart' hl)
      | (refine wpAny_ite_true (decide_eq_true (by simp)) ?_; wp_walk using wpAny_loadPart' hl))
    exact ⟨_, rfl, h⟩
theorem tup_never (l : Addr) (items : Array Value) (n : Nat) (sl : Array (Option Value)) (dd : Option Addr) (u : Tok) (hne : items.isEmpty = false) :
    Meets (Builtin.«tuple.__mul__» ⟨[.ref l, .int 0 u], []⟩) (fun _ R s => s.heap.get? l = some { cls := .type "tuple", dict := dd, data := .seq items n, slots := sl } ∧
      R (.ok (.ret (.ref s.heap.objs.size))) { s with heap := s.heap.push { cls := Value.type "tuple", data := Data.seq #[] }, toks := s.toks }) :=
  .of_wp fun prog w A R s h => by
    obtain ⟨hp, g, d, tk, os⟩ := s
    obtain ⟨hl, h⟩ := h
    have f1 := AutoSeq1.idx_int
    have c0 : (decide ((0 : Int) < -(2 ^ 63)) || decide ((0 : Int) ≥ 2 ^ 63)) = false := by decide
    have c1 : (items.isEmpty || (0 : Int) == 1) = false := by rw [hne]; rfl
    have c2 : (decide ((0 : Int) ≤ 0) || items.isEmpty) = true := by simp
    wp_walk using wpAny_loadPart' hl
    repeat (first
      | (refine wpAny_ite_false (decide_eq_false (by rw [c0]; exact Bool.false_ne_true)) ?_; wp_walk using wpAny_loadPart' hl)
      | (refine wpAny_ite_false (decide_eq_false (by rw [c1]; exact Bool.false_ne_true)) ?_; wp_walk using wpAny_loadPart' hl)
      | (refine wpAny_ite_true (decide_eq_true c2) ?_; wp_walk using wpAny_loadPart' hl))
    exact ⟨_, rfl, h⟩
def rTup01 (K : PySem.W.Frag) : R2 := fun x y H Q => ∃ l k xs, x = .ref l ∧ y = .int k ∧ SqT K H l xs ∧ xs ≠ [] ∧ ((k = 1 ∧ Q (.ref l) H) ∨ (k = 0 ∧ NewT H Q []))
section
variable {G : Tb} {X : Cx}
theorem op_tup01 : OpR X (binaryOp .Mult) (rTup01 X.K) := by
  intro pins s σ H x y v u Q I rx ry h
  obtain ⟨l, k, xs, rfl, rfl, hT, hne, h⟩ := h
  cases rx
  obtain ⟨t, rfl⟩ := ry
  obtain ⟨its, r, ⟨⟨cls, dd, data, sl⟩, ho, hc, n, hd⟩, hs⟩ := I.tuple hT
  simp only at hc hd
  subst hc hd
  have hi : its.toArray.isEmpty = false := by
    cases its with
    | nil => exact absurd (List.eq_nil_of_length_eq_zero r.length) hne
    | cons a b => rfl
  refine wpAny_binaryOp_repeat_ref (T := "tuple") (U := "int") (by decide) ⟨_, ho, rfl⟩ (fun s' => typeIs_int s' k t) noFill_tuple_mul F.fills_int_mul F.slot_int_rmul repeat_tuple F.slot_int_index.lookup
    (call_meets F.slot_int_rmul (typeIs_int s k t) F.entry_int_rmul (F.args_int_rmul_2 _ _) (int_rmul_tuple k t l its.toArray n dd sl) ⟨ho, rfl, ⟨_, ho, rfl⟩, ?_⟩)
  rcases h with ⟨rfl, q⟩ | ⟨rfl, q⟩
  · exact call_meets F.slot_tuple_mul ⟨_, ho, rfl⟩ F.entry_tuple_mul (F.args_tuple_mul_2 _ _) (tup_once l its.toArray n sl dd t) ⟨ho, .ref l, H, I, rfl, q⟩
  · exact call_meets F.slot_tuple_mul ⟨_, ho, rfl⟩ F.entry_tuple_mul (F.args_tuple_mul_2 _ _) (tup_never l its.toArray n sl dd t hi) ⟨ho, ep_tup0 I .nil rfl (Nat.zero_le _) q⟩
/-- t * k, k two or more -/
def rRepF (K : PySem.W.Frag) : R2 := fun x y H Q => ∃ l k xs, x = .ref l ∧ y = .int k ∧ SqT K H l xs ∧ xs ≠ [] ∧ 2 ≤ k ∧ k ≤ 1000 ∧ xs.length ≤ 1000 ∧ NewT H Q (List.replicate k.toNat xs).flatten
theorem op_repF : OpR X (binaryOp .Mult) (rRepF X.K) := by
  rintro pins s σ H x y v u Q I rx ry ⟨l, k, xs, rfl, rfl, hT, hne, k2, k3, hz, q⟩
  cases rx
  obtain ⟨t, rfl⟩ := ry
  obtain ⟨its, r, ⟨⟨cls, dd, data, sl⟩, ho, hc, n, hd⟩, hs⟩ := I.tuple hT
  simp only at hc hd
  subst hc hd
  have ln : its.length = xs.length := r.length.symm
  have hi : its.toArray.isEmpty = false := by
    cases its with
    | nil => exact absurd (List.eq_nil_of_length_eq_zero r.length) hne
    | cons a b => rfl
  have pi : ((xs.length : Nat) : Int) * k ≤ 1000 * k := Int.mul_le_mul_of_nonneg_right (by omega) (by omega)
  have pn : k.toNat * xs.length ≤ 1000 * 1000 := Nat.mul_le_mul (by omega) hz
  have c0 : (decide (k < -(2 ^ 63)) || decide (k ≥ 2 ^ 63)) = false := Bool.or_eq_false_iff.mpr ⟨decide_eq_false (by omega), decide_eq_false (by omega)⟩
  have c1 : (its.toArray.isEmpty || k == 1) = false := Bool.or_eq_false_iff.mpr ⟨hi, beq_eq_false_iff_ne.mpr (by omega)⟩
  have c2 : (decide (k ≤ 0) || its.toArray.isEmpty) = false := Bool.or_eq_false_iff.mpr ⟨decide_eq_false (by omega), hi⟩
  have c3 : ((its.toArray.size : Nat) : Int) * k ≤ 1000000 := by
    rw [List.size_toArray, ln]
    omega
  have c4 : Builtin.Tuple.tupleTooMany (((its.toArray.size : Nat) : Int) * k) = false := decide_eq_false (by rw [sizeLine_eq]; omega)
  have fl : (List.replicate k.toNat its).flatten.length ≤ sizeLine := by
    rw [PyProof.Rows.lm_len_rep_flat, ln, sizeLine_eq]
    omega
  refine wpAny_binaryOp_repeat_ref (T := "tuple") (U := "int") (by decide) ⟨_, ho, rfl⟩ (fun s' => typeIs_int s' k t) noFill_tuple_mul F.fills_int_mul F.slot_int_rmul repeat_tuple F.slot_int_index.lookup
    (call_meets F.slot_int_rmul (typeIs_int s k t) F.entry_int_rmul (F.args_int_rmul_2 _ _) (int_rmul_tuple k t l its.toArray n dd sl) ⟨ho, rfl, ⟨_, ho, rfl⟩, ?_⟩)
  refine call_meets F.slot_tuple_mul ⟨_, ho, rfl⟩ F.entry_tuple_mul (F.args_tuple_mul_2 _ _) (tuple_mulW l its.toArray n dd sl k t c0 c1 c2 (by omega) c4 (by rw [size_rep, List.size_toArray]; exact fl)) ⟨ho, ?_⟩
  rw [size_rep]
  exact ep_tup0 I (r.rep k.toNat) (by simp) (by rw [PyProof.Rows.lm_len_rep_flat, sizeLine_eq]; omega) q
def repL (l : List D) (k : Int) : List D := (List.replicate k.toNat l).flatten
def fMulS (d e : D) : Option RV := match d, e with
  | .int i, .int j => fMul (.int i) (.int j)
  | .lst l, .int k => if -1000 ≤ k ∧ k ≤ 1000 ∧ l.length ≤ 1000 then some (.fresh (.lst (repL l k))) else none
  | .tup l, .int k => if l = [] then none else if k = 0 then some (.dat (.tup [])) else if k = 1 then some (.dat (.tup l)) else if 2 ≤ k ∧ k ≤ 1000 ∧ l.length ≤ 1000 then some (.dat (.tup (repL l k))) else none
  | _, _ => none
theorem RepDs.rep {A : Hid} {H : Hp} {ds : List D} {vs : List V} (h : RepDs G A H ds vs) : ∀ n : Nat, RepDs G A H (List.replicate n ds).flatten (List.replicate n vs).flatten
  | 0 => .nil
  | n + 1 => by
    rw [List.replicate_succ, List.replicate_succ, List.flatten_cons, List.flatten_cons]
    exact h.append (h.rep n)
def rMulAll (K : PySem.W.Frag) : R2 := fun x y H Q => rI CMulW (fun i j => .int (i * j)) x y H Q ∨ rRep x y H Q ∨ rTup01 K x y H Q ∨ rRepF K x y H Q
theorem op_mulAll : OpR X (binaryOp .Mult) (rMulAll X.K) := OpR_or op_mulW (OpR_or op_rep (OpR_or op_tup01 op_repF))
theorem o_mulS : Op2 G (rMulAll G.K) fMulS := fun d d' rv A H x y Q e t h1 h2 q => by
  cases d <;> cases d' <;> try (cases e; done)
  · rename_i i j
    have e : fMul (.int i) (.int j) = some rv := e
    exact .inl (o_mul (.int i) (.int j) rv A H x y Q e t h1 h2 q)
  · rename_i l k
    unfold fMulS at e
    simp only at e
    obtain ⟨p1, v1, e1, s1, r1⟩ := t_tupF h1
    have e2 := t_int h2
    split at e
    · cases e
    · rename_i hne
      have hv : v1 ≠ [] := fun z => hne (by
        subst z
        exact List.eq_nil_of_length_eq_zero r1.length)
      split at e
      · rename_i h0
        cases e
        refine .inr (.inr (.inl ⟨p1, k, v1, e1, e2, s1.t, hv, .inr ⟨h0, fun p o hp hd => ?_⟩⟩))
        have x1 := Ext.newTup t hp (.frz o (.tup []))
        refine q _ A _ x1 ?_
        show RepD G A _ (.tup []) (.ref p)
        unfold RepD
        exact ⟨p, [], rfl, .inl ⟨o, upd_same .., hd⟩, .nil⟩
      · split at e
        · rename_i h0
          cases e
          refine .inr (.inr (.inl ⟨p1, k, v1, e1, e2, s1.t, hv, .inl ⟨h0, q _ A H (Ext.refl t) ?_⟩⟩))
          show RepD G A H (.tup l) (.ref p1)
          unfold RepD
          exact ⟨p1, v1, rfl, s1, r1⟩
        · split at e
          · rename_i h0
            cases e
            refine .inr (.inr (.inr ⟨p1, k, v1, e1, e2, s1.t, hv, h0.1, h0.2.1, by rw [← r1.length]; exact h0.2.2, fun p o hp hd => ?_⟩))
            have x1 := Ext.newTup t hp (.frz o (.tup (List.replicate k.toNat v1).flatten))
            refine q _ A _ x1 ?_
            show RepD G A _ (.tup (repL l k)) (.ref p)
            unfold RepD
            exact ⟨p, _, rfl, .inl ⟨o, upd_same .., hd⟩, RepDs.mono x1.stab t _ _ (r1.rep k.toNat)⟩
          · cases e
  · rename_i l k
    unfold fMulS at e
    simp only at e
    split at e
    · rename_i h0
      cases e
      have e2 := t_int h2
      obtain ⟨p1, v1, e1, s1, r1⟩ : ∃ p vs, x = .ref p ∧ H p = some (.lst vs) ∧ RepDs G A H l vs := by
        rcases h1 with h | ⟨p, e, _, vs, hp, r⟩
        · unfold RepD at h
          obtain ⟨a, vs, e, sq, r⟩ := h
          exact ⟨a, vs, e, sq.2, r⟩
        · exact ⟨p, vs, e, hp, r⟩
      have hl := r1.length
      refine .inr (.inl ⟨p1, k, v1, e1, e2, s1, by omega, by omega, ?_, fun p hp => ?_⟩)
      · have a1 : v1.length * k.toNat ≤ 1000 * 1000 := Nat.mul_le_mul (by omega) (by omega)
        exact Nat.le_trans a1 (by decide)
      · have x1 := Ext.newLst t hp (List.replicate k.toNat v1).flatten
        exact q _ _ _ x1 ⟨p, rfl, hp, .inr rfl, _, upd_same .., RepDs.mono x1.stab t _ _ (r1.rep k.toNat)⟩
    · cases e
end
end Tk
/-! Tk25: in, of tuples that hold data of any depth. -/
namespace Tk
open PySem PySem.Spec PyProof.Rows L2
section
variable {G : Tb} {XR : XW} {W : WX} {X : Cx} {fx : List Nat}
def rInTD (K : PySem.W.Frag) : R2 := fun x y H Q => ∃ d ds, Dp K H x d ∧ Dp K H y (.tuple ds) ∧ SeqAt.shaped d = true ∧ SeqAt.shaped (.tuple ds) = true ∧ Q (.bl (ds.any fun z => PyData.eqv z d)) H
def rNotInTD (K : PySem.W.Frag) : R2 := fun x y H Q => ∃ d ds, Dp K H x d ∧ Dp K H y (.tuple ds) ∧ SeqAt.shaped d = true ∧ SeqAt.shaped (.tuple ds) = true ∧ Q (.bl (!ds.any fun z => PyData.eqv z d)) H
def fInTD (neg : Bool) (d e : D) : Option RV := match toPy d, toPy e with
  | some p, some (.tuple ps) => if SeqAt.shaped p = true ∧ SeqAt.shaped (.tuple ps) = true then some (.dat (.bl (neg ^^ ps.any fun z => PyData.eqv z p))) else none
  | _, _ => none
def fInA (neg : Bool) (d e : D) : Option RV := orE (fIn neg d e) (fInTD neg d e)
def rInAA (K : PySem.W.Frag) : R2 := fun x y H Q => rInAll K x y H Q ∨ rInTD K x y H Q
def rNotInAA (K : PySem.W.Frag) : R2 := fun x y H Q => rNotInAll K x y H Q ∨ rNotInTD K x y H Q
end
end Tk
/-! Tk26: a dict display of one text and one int, both written. -/
namespace Tk
open PySem PySem.Spec PyProof.Rows L2
section
variable {G : Tb} {XR : XW} {W : WX} {X : Cx} {fx : List Nat}
def cDct1 (k : Str) (i : Int) : EF := fun env => some (.ok (.fresh (.dct [.inr k] [.int i])) env)
/-! ### c.join(xs), c written -/
def strD : D → Option Str
  | .str x => some x
  | _ => none
def strsD : List D → Option (List Str)
  | [] => some []
  | d :: l => match strD d, strsD l with
    | some x, some xs => some (x :: xs)
    | _, _ => none
theorem strsD_map : ∀ l : List Str, strsD (l.map D.str) = some l
  | [] => rfl
  | x :: l => by simp [strsD, strD, strsD_map l]
def fJoinC (c : Str) (d : D) : Option RV := match partsD d with
  | some l => match strsD l with
    | some ys => if (ys.map (·.length)).sum + ys.length * c.length ≤ 16777216 then some (.dat (.str (Txt.join c ys))) else none
    | none => none
  | none => none
theorem strs_v {A : Hid} {H : Hp} : ∀ {l : List D} {ys : List Str} {vs : List V}, strsD l = some ys → RepDs G A H l vs → vs = ys.map V.str
  | [], _, _, e, h => by
    obtain rfl := h.inv0
    cases e
    rfl
  | d :: l, _, _, e, h => by
    obtain ⟨v, r, rfl, h1, h2⟩ := h.inv
    unfold strsD at e
    split at e
    · rename_i x xs e1 e2
      cases e
      cases d <;> try (cases e1; done)
      cases e1
      unfold RepD at h1
      subst h1
      rw [List.map_cons, strs_v e2 h2]
    · cases e
theorem ev_joinC {c : Str} {e : Expr} {f : EF} {k : Nat} {p apos pos : Pos} (hk : X.K = G.K) (he : PE X e (tEv G XR W f)) (hs : starEach [e] X.env = [(false, eval e X.env)] := by rfl) (hline : (apos.endLine == pos.line) = true := by rfl)
    (hbase : attributeBase (.Constant (.str c) k p) "join" X.env (eval (.Constant (.str c) k p) X.env) = eval (.Constant (.str c) k p) X.env := by rfl) :
    PE X (.Call (.Attribute (.Constant (.str c) k p) "join" apos) [e] [] pos) (tEv G XR W (cUn (fJoinC c) f)) :=
  PE_imp (pe_join pe_str he hs hbase hline) fun σ H Q h => by
    refine ⟨⟨c, rfl⟩, ?_⟩
    refine use1 (r := fun x H1 Q => ∃ a p, ∃ ys : List Str, V.str c = .str a ∧ [x] = [.ref p] ∧ (SqL X.K H1 p (ys.map V.str) ∨ SqT X.K H1 p (ys.map V.str)) ∧ (ys.map (·.length)).sum + ys.length * a.length ≤ 16777216 ∧ Q (.str (Txt.join a ys)) H1) (fun d rv A H x Q e t h q => ?_) h
    unfold fJoinC at e
    split at e
    · rename_i l hl
      split at e
      · rename_i ys hy
        split at e
        · rename_i hz
          cases e
          obtain ⟨p, vs, e1, s, r⟩ := parts_v hl h
          subst e1
          have e2 := strs_v hy r
          subst e2
          exact ⟨c, p, ys, rfl, rfl, by rw [hk]; exact s, hz, q _ A H (Ext.refl t) rvS⟩
        · cases e
      · cases e
    · cases e
end
end Tk
/-! TkR: small facts for mirrors: sizes, ==, repr. -/
namespace Tk
open PySem

theorem mulOk_of {i j : Int} (h1 : i.natAbs < 2 ^ 2000) (h2 : j.natAbs < 2 ^ 2000) : mulOk i j = true := by
  unfold mulOk
  have e : (2 : Nat) ^ 2000 ≤ 2 ^ 4000 := Nat.pow_le_pow_right (by decide) (by decide)
  rw [decide_eq_true (Nat.lt_of_lt_of_le h1 e), decide_eq_true (Nat.lt_of_lt_of_le h2 e)]
  rfl
theorem divOk_of {i j : Int} (h0 : 0 < j) (h1 : j.natAbs < 2 ^ 2000) : divOk i j = true := by
  unfold divOk
  have e : (2 : Nat) ^ 2000 ≤ 2 ^ 4000 := Nat.pow_le_pow_right (by decide) (by decide)
  rw [decide_eq_true h0, decide_eq_true (Nat.lt_of_lt_of_le h1 e)]
  rfl
/-- a number that lies between 0 and a written one is small enough -/
theorem sm {i : Int} {m : Nat} (h0 : 0 ≤ i) (h1 : i ≤ m) (hm : m < 2 ^ 2000 := by decide +kernel) : i.natAbs < 2 ^ 2000 := by
  have : i.natAbs ≤ m := by omega
  exact Nat.lt_of_le_of_lt this hm
theorem powOk_lit {i j : Int} (h1 : 0 ≤ j) (h2 : j ≤ 1000) (h3 : i.natAbs < 1000) : powOk i j = true := by
  unfold powOk
  rw [decide_eq_true h1, decide_eq_true h2, decide_eq_true h3]
  rfl
/-! == -/
/-- a text that may be compared and shown -/
def StrOk (x : Str) : Prop := PyData.strOk x = true ∧ (x.cps.toList.all fun c => decide (c < 16 ^ 8)) = true ∧ x.cps.size ≤ 20
theorem StrOk.ltr {c : Nat} (h : c < 128) : StrOk ⟨#[c]⟩ := by
  refine ⟨?_, ?_, ?_⟩
  · simp [PyData.strOk]
    omega
  · simp
    omega
  · simp
theorem eqF_of {n : Bool} {d e : D} {p q : PyData} (h1 : toPy d = some p) (h2 : toPy e = some q) (h3 : SeqAt.shaped p = true) (h4 : SeqAt.shaped q = true) : eqF n d e = some (.dat (.bl (n ^^ PyData.eqv p q))) := by
  unfold eqF
  split
  · rename_i sx sy hs
    obtain ⟨rfl, rfl⟩ := twoS_of hs
    cases show some (PyData.str sx) = some p by rw [← h1]; unfold toPy; rfl
    cases show some (PyData.str sy) = some q by rw [← h2]; unfold toPy; rfl
    rw [show PyData.eqv (.str sx) (.str sy) = decide (sx = sy) from by rw [Bool.eq_iff_iff]; simp [PyData.eqv]]
  · unfold eqP
    rw [h1, h2]
    exact if_pos ⟨h3, h4⟩

/-! repr -/
structure RpOk (B : Nat) (p : PyData) : Prop where
  s : PyData.showable p = true
  h : SeqAt.shaped p = true
  l : PyData.leavesShort B p = true
  d : PyData.hasDict p = false
  z : (B + 2) * p.bulk + B ≤ 1000000
theorem fRepr_of {B : Nat} {d : D} {p : PyData} (hB : 8 ≤ B) (h : toPy d = some p) (o : RpOk B p) : fRepr d = some (.dat (.str p.shown)) := by
  have hs := PyData.shown_le_bulk B hB p o.l
  have hz := o.z
  have z : szOk p.shown.length = true := decide_eq_true (by omega)
  unfold fRepr
  rw [h]
  exact if_pos ⟨o.s, o.h, z, o.d⟩
theorem int_short {i : Int} {k : Nat} (hk : 0 < k) (h : i.natAbs < 10 ^ k) : (PyData.shown (.int i)).length ≤ k + 1 := by
  have e := int_text_length_le10 hk h
  show (Str.ofString (toString i)).length ≤ k + 1
  rw [ofString_length]
  exact e
theorem int_show {i : Int} (h : i.natAbs < 2 ^ 1920) : PyData.showable (.int i) = true := decide_eq_true (log2_lt_pow (by decide) h)

end Tk
/-! TkD: repr of data in which empty dicts may lie. -/
namespace Tk
open PySem PySem.Spec PyProof.Rows L2
mutual
def toPyD : D → Option PyData
  | .non => some .none
  | .bl b => some (.bool b)
  | .int i => some (.int i)
  | .str x => some (.str x)
  | .tup l => (toPysD l).map .tuple
  | .lst l => (toPysD l).map .list
  | .dct [] [] => some (.dict [])
  | .dct [.inr k] [.int i] => some (.dict [(.str k, .int i)])
  | _ => none
def toPysD : List D → Option (List PyData)
  | [] => some []
  | d :: ds => match toPyD d, toPysD ds with
    | some p, some ps => some (p :: ps)
    | _, _ => none
end
theorem toPyD_dct {ks : List Key} {l : List D} {p : PyData} (e : toPyD (.dct ks l) = some p) : (ks = [] ∧ l = [] ∧ p = .dict []) ∨ ∃ k i, ks = [.inr k] ∧ l = [.int i] ∧ p = .dict [(.str k, .int i)] := by
  unfold toPyD at e
  split at e
  all_goals first
    | (rename_i heq; cases heq; done)
    | (rename_i heq; cases heq; cases e; exact .inl ⟨rfl, rfl, rfl⟩)
    | (rename_i heq; cases heq; cases e; exact .inr ⟨_, _, rfl, rfl, rfl⟩)
    | cases e
mutual
inductive DpD (K : PySem.W.Frag) (H : Hp) : V → PyData → Prop
  | non : DpD K H .non .none
  | bl (b : Bool) : DpD K H (.bl b) (.bool b)
  | int (i : Int) : DpD K H (.int i) (.int i)
  | str (x : Str) : DpD K H (.str x) (.str x)
  | lst {a : Addr} {xs : List V} {ds : List PyData} : H a = some (.lst xs) → DpDs K H xs ds → DpD K H (.ref a) (.list ds)
  | tup {a : Addr} {xs : List V} {ds : List PyData} : SqT K H a xs → DpDs K H xs ds → DpD K H (.ref a) (.tuple ds)
  | dct {a : Addr} : Rd H a (.dK []) → DpD K H (.ref a) (.dict [])
  | dct1 {a : Addr} {k : Str} {i : Int} : Rd H a (.dK [(.inr k, .int i)]) → DpD K H (.ref a) (.dict [(.str k, .int i)])
inductive DpDs (K : PySem.W.Frag) (H : Hp) : List V → List PyData → Prop
  | nil : DpDs K H [] []
  | cons {v : V} {vs : List V} {d : PyData} {ds : List PyData} : DpD K H v d → DpDs K H vs ds → DpDs K H (v :: vs) (d :: ds)
end
/-! how data lies in a heap: dicts are empty, and none is the modules' one -/
mutual
inductive RdE (h : Heap) : Value → PyData → Prop
  | none : RdE h .none .none
  | bool (b : Bool) : RdE h (.bool b) (.bool b)
  | int (i : Int) (t : Tok) : RdE h (.int i t) (.int i)
  | str (x : Str) (t : Tok) : RdE h (.str x t) (.str x)
  | list {a : Addr} {o : Obj} {vs : List Value} {n : Nat} {ds : List PyData} : h.get? a = some o → o.cls = .type "list" → o.data = .seq vs.toArray n → RdEs h vs ds → RdE h (.ref a) (.list ds)
  | tuple {a : Addr} {o : Obj} {vs : List Value} {n : Nat} {ds : List PyData} : h.get? a = some o → o.cls = .type "tuple" → o.data = .seq vs.toArray n → RdEs h vs ds → RdE h (.ref a) (.tuple ds)
  | dict {a : Addr} {o : Obj} {es : Array DictEntry} {n : Nat} : h.get? a = some o → o.cls = .type "dict" → o.data = .dict es n → es.toList = [] → (a == sysModules) = false → RdE h (.ref a) (.dict [])
  | dict1 {a : Addr} {o : Obj} {es : Array DictEntry} {n : Nat} {e : DictEntry} {k : Str} {t t' : Tok} {i : Int} : h.get? a = some o → o.cls = .type "dict" → o.data = .dict es n → es.toList = [e] → e.key = .str k t → e.val = .int i t' → (a == sysModules) = false → RdE h (.ref a) (.dict [(.str k, .int i)])
inductive RdEs (h : Heap) : List Value → List PyData → Prop
  | nil : RdEs h [] []
  | cons {v : Value} {vs : List Value} {d : PyData} {ds : List PyData} : RdE h v d → RdEs h vs ds → RdEs h (v :: vs) (d :: ds)
end
theorem key_short {k : Str} {i : Int} (z : (PyData.shown (.dict [(.str k, .int i)])).length ≤ sizeLine) : (reprText k).length ≤ sizeLine := by
  rw [PyData.shown_dict, PyData.shownKv_cons, PyData.shownKv_nil, PyData.shown_str] at z
  have e : Str.join ", " [reprText k ++ ": " ++ (PyData.int i).shown] = reprText k ++ ": " ++ (PyData.int i).shown := rfl
  rw [e] at z
  simp only [Str.length_append] at z
  omega
section
variable {prog : Program} {w : World} {h₀ : Heap}
mutual
theorem RdE.plain : ∀ {v : Value} {d : PyData}, RdE h₀ v d → ∃ as, Reads h₀ v d as
  | _, _, .none => ⟨_, .none⟩
  | _, _, .bool b => ⟨_, .bool b⟩
  | _, _, .int i t => ⟨_, .int i t⟩
  | _, _, .str x t => ⟨_, .str x t⟩
  | _, _, .list e1 e2 e3 r => let ⟨_, q⟩ := r.plains; ⟨_, Reads.list e1 e2 e3 (by simpa using q)⟩
  | _, _, .tuple e1 e2 e3 r => let ⟨_, q⟩ := r.plains; ⟨_, Reads.tuple e1 e2 e3 (by simpa using q)⟩
  | _, _, .dict e1 e2 e3 e4 _ => ⟨_, Reads.dict (kvs := []) e1 e2 e3 (by rw [e4]; exact .nil) (by rw [e4]; exact .nil)⟩
  | _, _, .dict1 (k := k) (t := t) (t' := t') (i := i) e1 e2 e3 e4 e5 e6 _ => ⟨_, Reads.dict (kvs := [(.str k, .int i)]) e1 e2 e3 (by rw [e4]; simp only [List.map_cons, List.map_nil, e5]; exact .cons (.str k t) .nil) (by rw [e4]; simp only [List.map_cons, List.map_nil, e6]; exact .cons (.int i t') .nil)⟩
theorem RdEs.plains : ∀ {vs : List Value} {ds : List PyData}, RdEs h₀ vs ds → ∃ as, ReadsAll h₀ vs ds as
  | _, _, .nil => ⟨_, .nil⟩
  | _, _, .cons r q => let ⟨_, x⟩ := r.plain; let ⟨_, y⟩ := q.plains; ⟨_, .cons x y⟩
end
mutual
theorem RdE.shows : ∀ {v : Value} {d : PyData}, RdE h₀ v d → PyData.showable d = true → (PyData.shown d).length ≤ sizeLine → ∃ bs, ReadAtMost h₀ (PyData.depth d) bs ∧ ReprK prog w bs h₀ (PyData.depth d) v (PyData.shown d)
  | _, _, .none, _, _ => ⟨[], nofun, by simp only [PyData.shown]; exact .of_is ReprIs.none _ _ _⟩
  | _, _, .bool b, _, _ => ⟨[], nofun, by simp only [PyData.shown]; exact .of_is (ReprIs.bool b) _ _ _⟩
  | _, _, .int i t, sh, _ => ⟨[], nofun, by simp only [PyData.shown]; exact .of_is (ReprIs.int t (of_decide_eq_true sh)) _ _ _⟩
  | _, _, .str x t, _, z => ⟨[], nofun, by simp only [PyData.shown] at z ⊢; exact .of_is (ReprIs.str x t z) _ _ _⟩
  | _, _, .list (a := a) (vs := vs) (ds := ds) e1 e2 e3 q, sh, z => by
    simp only [PyData.shown] at z
    simp only [PyData.showable] at sh
    obtain ⟨bs, rm, rk⟩ := q.showsAll sh fun t ht => Nat.le_trans (listText_mem_le ht) z
    obtain ⟨_, pl⟩ := (RdE.list e1 e2 e3 q).plain
    have na : a ∉ bs := not_mem_of_deeper pl (Nat.lt_succ_self _) rm
    refine ⟨a :: bs, .cons pl (Nat.le_succ _) rm, ?_⟩
    simp only [PyData.depth, PyData.shown]
    match vs, q, rk, e3 with
    | [], .nil, _, e3 =>
      simp only [PyData.shownAll, listText_nil]
      exact .listEmpty e1 e2 e3
    | x :: l, q, rk, e3 => exact .list e1 e2 e3 na (by simpa using rk.length_eq) fun i y e => rk.item i y (by simpa using e)
  | _, _, .tuple (a := a) e1 e2 e3 q, sh, z => by
    simp only [PyData.shown] at z
    simp only [PyData.showable] at sh
    obtain ⟨bs, rm, rk⟩ := q.showsAll sh fun t ht => Nat.le_trans (tupleText_mem_le ht) z
    obtain ⟨_, pl⟩ := (RdE.tuple e1 e2 e3 q).plain
    have na : a ∉ bs := not_mem_of_deeper pl (Nat.lt_succ_self _) rm
    refine ⟨a :: bs, .cons pl (Nat.le_succ _) rm, ?_⟩
    simp only [PyData.depth, PyData.shown]
    exact .tuple e1 e2 e3 na (by simpa using rk)
  | _, _, .dict (a := a) (es := es) e1 e2 e3 e4 ns, _, _ => by
    obtain ⟨_, pl⟩ := (RdE.dict e1 e2 e3 e4 ns).plain
    refine ⟨[a], .cons (n := 0) pl (Nat.zero_le _) nofun, ?_⟩
    simp only [PyData.depth, PyData.shown, PyData.shownKv, PyData.depthKv]
    exact .dict e1 e2 e3 ns (by simp) (by rw [e4]; exact .nil)
  | _, _, .dict1 (a := a) (es := es) (k := k) (t := t) (t' := t') (i := i) e1 e2 e3 e4 e5 e6 ns, sh, z => by
    obtain ⟨_, pl⟩ := (RdE.dict1 e1 e2 e3 e4 e5 e6 ns).plain
    refine ⟨[a], .cons (n := 0) pl (Nat.zero_le _) nofun, ?_⟩
    have zk := key_short z
    simp only [PyData.showable, PyData.showableKv, Bool.and_eq_true] at sh
    simp only [PyData.depth, PyData.shown, PyData.shownKv, PyData.depthKv]
    refine .dict e1 e2 e3 ns (by simp) ?_
    rw [e4]
    refine .cons ?_ ?_ .nil
    · rw [e5]
      exact .of_is (ReprIs.str k t zk) _ _ _
    · rw [e6]
      exact .of_is (ReprIs.int t' (of_decide_eq_true sh.1.2)) _ _ _
theorem RdEs.showsAll : ∀ {vs : List Value} {ds : List PyData}, RdEs h₀ vs ds → PyData.showableAll ds = true → (∀ t ∈ PyData.shownAll ds, t.length ≤ sizeLine) → ∃ bs, ReadAtMost h₀ (PyData.depthAll ds) bs ∧ ReprAllK prog w bs h₀ (PyData.depthAll ds) vs (PyData.shownAll ds)
  | _, _, .nil, _, _ => ⟨[], nofun, by simp only [PyData.shownAll]; exact .nil⟩
  | _, _, .cons r q, sh, z => by
    simp only [PyData.showableAll, Bool.and_eq_true] at sh
    simp only [PyData.shownAll, List.mem_cons, forall_eq_or_imp] at z
    obtain ⟨b1, m1, k1⟩ := r.shows sh.1 z.1
    obtain ⟨b2, m2, k2⟩ := q.showsAll sh.2 z.2
    simp only [PyData.depthAll, PyData.shownAll]
    exact ⟨b1 ++ b2, (m1.mono (Nat.le_max_left _ _)).append (m2.mono (Nat.le_max_right _ _)), .cons ((k1.more fun b hb => List.mem_append_left _ hb).level_le (Nat.le_max_left _ _)) (k2.more_le (fun b hb => List.mem_append_right _ hb) (Nat.le_max_right _ _))⟩
end
end
section
variable {X : Cx} {pins : List (Addr × Obj)} {σ : L2.St} {H : Hp} {s : Shared}
mutual
theorem DpD.reads (I : Inv X pins σ H s) : ∀ (d : PyData) (v : V) (u : Value), DpD X.K H v d → RelV v u → RdE s.heap u d
  | .none, _, _, h, r => by
    cases h
    cases r
    exact .none
  | .bool b, _, _, h, r => by
    cases h
    cases r
    exact .bool b
  | .int i, _, _, h, r => by
    cases h
    obtain ⟨t, rfl⟩ := r
    exact .int i t
  | .str x, _, _, h, r => by
    cases h
    obtain ⟨t, rfl⟩ := r
    exact .str x t
  | .list ds, _, _, h, r => by
    cases h with
    | lst he ha =>
      cases r
      obtain ⟨its, rv, ⟨o, n, ho, hc, _, hd⟩, _⟩ := I.list (SqL.of he)
      exact .list ho hc hd (DpDs.readsAll I ds _ its ha rv)
  | .tuple ds, _, _, h, r => by
    cases h with
    | tup he ha =>
      cases r
      obtain ⟨its, rv, ⟨o, ho, hc, n, hd⟩, _⟩ := I.tuple he
      exact .tuple ho hc hd (DpDs.readsAll I ds _ its ha rv)
  | .dict ks, _, _, h, r => by
    cases h with
    | dct he =>
      cases r
      obtain ⟨_, hsm, vs, kv, o, es, ep, ho, hx, hd, _, hp, _⟩ := dk_rd I.hok he
      have hv : vs = [] := by cases kv; rfl
      subst hv
      have he : es.toList = [] := by
        generalize es.toList = l at hp
        cases hp
        rfl
      exact .dict ho hx.1 hd he hsm
    | dct1 he =>
      cases r
      obtain ⟨_, hsm, vs, kv, o, es, ep, ho, hx, hd, _, hp, _⟩ := dk_rd I.hok he
      cases kv with
      | @cons p q ps qs p1 p2 =>
        cases p2
        obtain ⟨q1, q2⟩ := q
        obtain ⟨h1, h2⟩ := p1
        simp only at h1 h2
        obtain ⟨t', rfl⟩ := h2
        subst h1
        generalize hl : es.toList = l at hp
        cases hp with
        | cons k1 k2 k3 =>
          cases k3
          simp only [mixKind] at k1 k2
          rcases L2.keyIs_shape k1 with ⟨i, t, z, _⟩ | ⟨x, t, z, e⟩
          · cases z
          · cases z
            exact .dict1 ho hx.1 hd hl e k2 hsm
theorem DpDs.readsAll (I : Inv X pins σ H s) : ∀ (ds : List PyData) (vs : List V) (us : List Value), DpDs X.K H vs ds → Vals vs us → RdEs s.heap us ds
  | [], _, _, h, r => by
    cases h
    cases r
    exact .nil
  | d :: ds, _, _, h, r => by
    cases h with
    | cons h1 h2 =>
      cases r with
      | cons r1 r2 => exact .cons (DpD.reads I d _ _ h1 r1) (DpDs.readsAll I ds _ _ h2 r2)
end
end
section
variable {G : Tb} {X : Cx}
mutual
theorem dpD_of {A : Hid} {H : Hp} : ∀ (d : D) (p : PyData) (v : V), toPyD d = some p → RepD G A H d v → DpD G.K H v p
  | .non, _, _, e, h => by
    unfold toPyD at e
    unfold RepD at h
    cases e
    subst h
    exact .non
  | .bl _, _, _, e, h => by
    unfold toPyD at e
    unfold RepD at h
    cases e
    subst h
    exact .bl _
  | .int _, _, _, e, h => by
    unfold toPyD at e
    unfold RepD at h
    cases e
    subst h
    exact .int _
  | .str _, _, _, e, h => by
    unfold toPyD at e
    unfold RepD at h
    cases e
    subst h
    exact .str _
  | .tup l, p, _, e, h => by
    unfold toPyD at e
    unfold RepD at h
    obtain ⟨a, vs, rfl, sq, r⟩ := h
    cases hp : toPysD l with
    | none =>
      rw [hp] at e
      cases e
    | some ps =>
      rw [hp] at e
      cases e
      exact .tup sq.t (dpDs_of l ps vs hp r)
  | .lst l, p, _, e, h => by
    unfold toPyD at e
    unfold RepD at h
    obtain ⟨a, vs, rfl, sq, r⟩ := h
    cases hp : toPysD l with
    | none =>
      rw [hp] at e
      cases e
    | some ps =>
      rw [hp] at e
      cases e
      exact .lst sq.2 (dpDs_of l ps vs hp r)
  | .dct ks l, p, _, e, h => by
    unfold RepD at h
    obtain ⟨a, vs, rfl, _, rd, hl, r⟩ := h
    rcases toPyD_dct e with ⟨rfl, rfl, rfl⟩ | ⟨k, i, rfl, rfl, rfl⟩
    · exact .dct rd
    · obtain ⟨v, r', rfl, h1, h2⟩ := r.inv
      obtain rfl := h2.inv0
      unfold RepD at h1
      subst h1
      exact .dct1 rd
  | .obj _ _, _, _, e, _ => by unfold toPyD at e; cases e
  | .exv _ _, _, _, e, _ => by unfold toPyD at e; cases e
  | .fn _, _, _, e, _ => by unfold toPyD at e; cases e
  | .scr _, _, _, e, _ => by unfold toPyD at e; cases e
theorem dpDs_of {A : Hid} {H : Hp} : ∀ (ds : List D) (ps : List PyData) (vs : List V), toPysD ds = some ps → RepDs G A H ds vs → DpDs G.K H vs ps
  | [], _, _, e, h => by
    unfold toPysD at e
    cases e
    obtain rfl := h.inv0
    exact .nil
  | d :: ds, _, _, e, h => by
    obtain ⟨v, r, rfl, h1, h2⟩ := h.inv
    unfold toPysD at e
    cases hd : toPyD d with
    | none =>
      rw [hd] at e
      cases e
    | some p =>
      cases hs : toPysD ds with
      | none =>
        rw [hd, hs] at e
        cases e
      | some ps =>
        rw [hd, hs] at e
        cases e
        exact .cons (dpD_of d p v hd h1) (dpDs_of ds ps r hs h2)
end
def fReprD (d : D) : Option RV := match toPyD d with
  | some p => if PyData.showable p = true ∧ p.depth ≤ 64 ∧ szOk p.shown.length = true then some (.dat (.str p.shown)) else none
  | none => none
def rReprD (K : PySem.W.Frag) : List V → Hp → VK → Prop := fun xs H Q => ∃ x p, xs = [x] ∧ DpD K H x p ∧ PyData.showable p = true ∧ p.depth ≤ 64 ∧ p.shown.length ≤ sizeLine ∧ Q (.str p.shown) H
end
end Tk
/-! TkY: try with several clauses, some of which name the exception. -/
namespace Tk
open PySem PySem.Spec PyProof.Rows L2
/-- one clause: the slot of its name, its class, what its suite does -/
abbrev Hm := Option Nat × Value × (Addr → Value → Option Addr → TS)
def cutN (i : Nat) (D : Ends) : Ends := ⟨fun σ' H' => D.nx (σ'.set i none) H', D.rt, fun σ' H' => D.bk (σ'.set i none) H', fun σ' H' => D.ct (σ'.set i none) H'⟩
def goS (oi : Option Nat) (ts : Addr → Value → Option Addr → TS) (a : Addr) (cls : Value) (d : Option Addr) (D : Ends) (σ : L2.St) (H : Hp) : Prop := match oi with
  | none => ts a cls d D σ H
  | some i => ts a cls d (cutN i D) (σ.set i (some (.ref a))) H
def wMix (K : PySem.W.Frag) (Wo : WX) (D : Ends) : List Hm → WX
  | [] => Wo
  | (oi, c, ts) :: r => fun cls d σ H => ∃ b, PySem.W.exmOne K cls c = some b ∧ (b = true → ∀ a, H a = none → goS oi ts a cls d D σ H) ∧ (b = false → wMix K Wo D r cls d σ H)
inductive HdsM (X : Cx) : List ExceptHandler → List Hm → Prop
  | nil : HdsM X [] []
  | cons {x : Str} {c : Value} {oi : Option Nat} {on : Option Str} {ts : Addr → Value → Option Addr → TS} {b0 : Stmt} {suite : List Stmt} {np pos' : Pos} {hds : List ExceptHandler} {l : List Hm}
      (hn : (oi = none ∧ on = none) ∨ ∃ i n, oi = some i ∧ on = some n ∧ X.N[i]? = some n ∧ X.env.kindOf n = some .local) (hc : Names X x c)
      (hu : ∀ (a : Addr) (oe : Obj) (cls : Value) (d : Option Addr) (pn : List (Addr × Obj)), Zc cls d oe → (∃ vs, oe.data = .fields vs) → PSs (X.suite a ((a, oe) :: pn)) (b0 :: suite) (ts a cls d)) (r : HdsM X hds l) :
      HdsM X (.ExceptHandler (some (.Name x np)) on (b0 :: suite) pos' :: hds) ((oi, c, ts) :: l)
/-! ### the mirror -/
abbrev Hg := Option Nat × (Nat → Option Bool) × SF
def leave0 : Option (Rs Fl) → Option (Rs Fl)
  | some (.ok fl e) => if e.all noX = true then some (.ok fl e) else none
  | _ => none
def handG : List Hg → Exc → Env → Option (Rs Fl)
  | [], x, e => some (.ex x e)
  | (oi, m, g) :: r, x, e => match m x.cls with
    | some true => match oi with
      | none => if e.all noX = true then leave0 (g e) else none
      | some i => match (e[i]? : Option (Option Cell)) with
        | some none => if e.all noX = true then leaveX i (g (e.set i (some (.exc x)))) else none
        | _ => none
    | some false => handG r x e
    | none => none
def sTryM (hs : List Hg) (body : SF) : SF := fun env => match body env with
  | some (.ex x e) => handG hs x e
  | r => r
section
variable {G : Tb} {W : WX} {X : Cx} {fx : List Nat}
theorem Rep.atX {z : Option (Addr × Value × Option Addr)} {σ : L2.St} {A : Hid} {H : Hp} {e : Env} (R : Rep G A σ H e) (h0 : e.all noX = true) : Rep (G.at z) A σ H e := by
  refine ⟨R.len, R.tup, fun j c k => ?_, R.inj⟩
  obtain ⟨v, e1, c1⟩ := R.cell j c k
  refine ⟨v, e1, ?_⟩
  cases c with
  | dat d => exact (RepD_at d v).mpr c1
  | own d =>
    obtain ⟨p, e2, a, t⟩ := c1
    exact ⟨p, e2, a, (RepTop_at d p).mpr t⟩
  | exc y => exact absurd (get_noX h0 k) Bool.false_ne_true
theorem Rep.unX {z : Option (Addr × Value × Option Addr)} {σ : L2.St} {A : Hid} {H : Hp} {e : Env} (R : Rep (G.at z) A σ H e) (h0 : e.all noX = true) : Rep G A σ H e := by
  refine ⟨R.len, R.tup, fun j c k => ?_, R.inj⟩
  obtain ⟨v, e1, c1⟩ := R.cell j c k
  refine ⟨v, e1, ?_⟩
  cases c with
  | dat d => exact (RepD_at d v).mp c1
  | own d =>
    obtain ⟨p, e2, a, t⟩ := c1
    exact ⟨p, e2, a, (RepTop_at d p).mp t⟩
  | exc y => exact absurd (get_noX h0 k) Bool.false_ne_true
theorem OutOk.unX {z : Option (Addr × Value × Option Addr)} {σ : L2.St} {A : Hid} {H0 H : Hp} {e : Env} {o : Out} {v : V} (h : OutOk (G.at z) H0 A σ H e o v) : OutOk G H0 A σ H e o v := by
  cases o with
  | dat d => exact (RepD_at d v).mp h
  | fresh d =>
    obtain ⟨q, e4, n4, a4, o4, t4⟩ := h
    exact ⟨q, e4, n4, a4, o4, (RepTop_at d q).mp t4⟩
  | slot j => exact h
/-- the clauses -/
inductive HdsG (G : Tb) (X : Cx) (fx : List Nat) : List ExceptHandler → List Hg → Prop
  | nil : HdsG G X fx [] []
  | cons {x : Str} {c : Value} {oi : Option Nat} {on : Option Str} {m : Nat → Option Bool} {g : SF} {b0 : Stmt} {suite : List Stmt} {np pos' : Pos} {hds : List ExceptHandler} {l : List Hg}
      (hn : (oi = none ∧ on = none) ∨ ∃ i n, oi = some i ∧ on = some n ∧ X.N[i]? = some n ∧ X.env.kindOf n = some .local ∧ i ∉ fx) (hc : Names X x c)
      (hm : ∀ k C ns b, G.cls k = some (C, ns) → m k = some b → PySem.W.exmOne G.K (.ref C) c = some b)
      (hu : ∀ (a : Addr) (oe : Obj) (cls : Value) (d : Option Addr) (pn : List (Addr × Obj)), Zc cls d oe → (∃ vs, oe.data = .fields vs) → PSs (X.suite a ((a, oe) :: pn)) (b0 :: suite) (tEx (G.at (some (a, cls, d))) XRx W0 fx g)) (r : HdsG G X fx hds l) :
      HdsG G X fx (.ExceptHandler (some (.Name x np)) on (b0 :: suite) pos' :: hds) ((oi, m, g) :: l)
theorem HdsG.mix (B : X.K = G.K) {σ : L2.St} {A : Hid} {H : Hp} {env : Env} {D : Ends} : ∀ {hds : List ExceptHandler} {l : List Hg}, HdsG G X fx hds l → ∃ lm : List Hm, HdsM X hds lm ∧
    ∀ (x : Exc) (e : Env) (σ1 : L2.St) (A1 : Hid) (H1 : Hp) (c1 : Value) (d1 : Option Addr), Rep G A1 σ1 H1 e → Keep fx σ σ1 → Fr (Own σ env) A H (Own σ1 e) A1 H1 → XRx G x c1 d1 A1 H1 → PostS G XRx W fx D σ A H env (handG l x e) → wMix X.K W D lm c1 d1 σ1 H1
  | _, _, .nil => ⟨[], .nil, fun x e σ1 A1 H1 c1 d1 R1 K1 F1 xr p => p σ1 A1 H1 c1 d1 R1 K1 F1 xr⟩
  | _, _, @HdsG.cons _ _ _ xn c oi on m g b0 suite np pos' hds l hn hc hm hu r => by
    obtain ⟨lm, hk, ih⟩ := HdsG.mix B (σ := σ) (A := A) (H := H) (env := env) (D := D) r
    refine ⟨(oi, c, fun a cls d => tEx (G.at (some (a, cls, d))) XRx W0 fx g) :: lm, .cons (by
      rcases hn with z | ⟨i, n, z1, z2, z3, z4, _⟩
      · exact .inl z
      · exact .inr ⟨i, n, z1, z2, z3, z4⟩) hc hu hk, fun x e σ1 A1 H1 c1 d1 R1 K1 F1 xr p => ?_⟩
    obtain ⟨C, ns, hcl, rfl, xf⟩ := id xr
    unfold handG at p
    cases hmy : m x.cls with
    | none =>
      simp only [hmy] at p
      exact p.elim
    | some b =>
      refine ⟨b, by rw [B]; exact hm _ _ _ _ hcl hmy, fun hb1 a na => ?_, fun hb1 => ?_⟩
      · subst hb1
        simp only [hmy] at p
        rcases hn with ⟨rfl, rfl⟩ | ⟨i, n, rfl, rfl, hi, hln, hfx⟩
        · simp only at p
          by_cases hx : e.all noX = true
          · rw [if_pos hx] at p
            refine ⟨A1, e, R1.atX hx, ?_⟩
            cases hg : g e with
            | none =>
              rw [hg] at p
              exact p
            | some r2 =>
              rw [hg] at p
              cases r2 with
              | ex _ _ => exact p.elim
              | ok fl e2 =>
                unfold leave0 at p
                simp only at p
                by_cases ho : e2.all noX = true
                · rw [if_pos ho] at p
                  have keep : ∀ {σ2 : L2.St}, Keep fx σ1 σ2 → Keep fx σ σ2 := fun kk j hj => (kk j hj).trans (K1 j hj)
                  cases fl with
                  | next => exact fun σ2 A2 H2 R3 K3 F3 => p σ2 A2 H2 (R3.unX ho) (keep K3) (F1.trans F3)
                  | brk => exact fun σ2 A2 H2 R3 K3 F3 => p σ2 A2 H2 (R3.unX ho) (keep K3) (F1.trans F3)
                  | cont => exact fun σ2 A2 H2 R3 K3 F3 => p σ2 A2 H2 (R3.unX ho) (keep K3) (F1.trans F3)
                  | ret o =>
                    intro σ2 A2 H2 v R3 K3 F3 ok
                    refine p σ2 A2 H2 v (R3.unX ho) (keep K3) (F1.trans F3) ?_
                    cases o with
                    | dat d => exact (RepD_at d v).mp ok
                    | fresh d =>
                      obtain ⟨q, e4, n4, a4, o4, t4⟩ := ok
                      exact ⟨q, e4, F1.none n4, a4, o4, (RepTop_at d q).mp t4⟩
                    | slot j => exact ok
                · rw [if_neg ho] at p
                  exact p.elim
          · rw [if_neg hx] at p
            exact p.elim
        · simp only at p
          cases hei : (e[i]? : Option (Option Cell)) with
          | none =>
            simp only [hei] at p
            exact p.elim
          | some ce =>
            cases ce with
            | some _ =>
              simp only [hei] at p
              exact p.elim
            | none =>
              simp only [hei] at p
              by_cases hx : e.all noX = true
              · rw [if_pos hx] at p
                have R2 := R1.toX (z := (a, .ref C, d1)) hx hei hcl rfl xf
                refine ⟨A1, e.set i (some (.exc x)), R2, ?_⟩
                have keep : ∀ {σ2 : L2.St}, Keep fx (σ1.set i (some (.ref a))) σ2 → Keep fx σ (σ2.set i none) ∧ Keep fx σ σ2 := fun {σ2} kk => by
                  refine ⟨fun j hj => ?_, fun j hj => ?_⟩
                  all_goals have hij : i ≠ j := fun q => hfx (q ▸ hj)
                  · rw [List.getElem?_set_ne hij, kk j hj, List.getElem?_set_ne hij]
                    exact K1 j hj
                  · rw [kk j hj, List.getElem?_set_ne hij]
                    exact K1 j hj
                have fr0 : ∀ {σ2 : L2.St} {A2 : Hid} {H2 : Hp} {e2 : Env}, Fr (Own (σ1.set i (some (.ref a))) (e.set i (some (.exc x)))) A1 H1 (Own σ2 e2) A2 H2 → Fr (Own σ env) A H (Own σ2 e2) A2 H2 := fun f2 => F1.trans (f2.moreO fun p q => own_toX hei q)
                cases hg : g (e.set i (some (.exc x))) with
                | none =>
                  rw [hg] at p
                  exact p
                | some r2 =>
                  rw [hg] at p
                  cases r2 with
                  | ex _ _ => exact p.elim
                  | ok fl e2 =>
                    unfold leaveX at p
                    simp only at p
                    by_cases ho : outX i fl = true ∧ (e2.set i none).all noX = true
                    · rw [if_pos ho] at p
                      cases fl with
                      | next => exact fun σ2 A2 H2 R3 K3 F3 => p (σ2.set i none) A2 H2 (R3.ofX ho.2 (.inr rfl)) (keep K3).1 ((fr0 F3).lessO fun q => own_clear)
                      | brk => exact fun σ2 A2 H2 R3 K3 F3 => p (σ2.set i none) A2 H2 (R3.ofX ho.2 (.inr rfl)) (keep K3).1 ((fr0 F3).lessO fun q => own_clear)
                      | cont => exact fun σ2 A2 H2 R3 K3 F3 => p (σ2.set i none) A2 H2 (R3.ofX ho.2 (.inr rfl)) (keep K3).1 ((fr0 F3).lessO fun q => own_clear)
                      | ret o =>
                        intro σ2 A2 H2 v R3 K3 F3 ok
                        refine p σ2 A2 H2 v (R3.ofX ho.2 (.inl rfl)) (keep K3).2 ((fr0 F3).lessO fun q => own_clear') ?_
                        cases o with
                        | dat d => exact (RepD_at d v).mp ok
                        | fresh d =>
                          obtain ⟨q, e4, n4, a4, o4, t4⟩ := ok
                          exact ⟨q, e4, F1.none n4, a4, fun z => o4 (own_clear' z), (RepTop_at d q).mp t4⟩
                        | slot j => exact ok
                    · rw [if_neg ho] at p
                      exact p.elim
              · rw [if_neg hx] at p
                exact p.elim
      · subst hb1
        simp only [hmy] at p
        exact ih x e σ1 A1 H1 _ d1 R1 K1 F1 xr p
end
end Tk
/-! Tk40: try with several clauses, each of one class or of a tuple of classes. -/
namespace Tk
open PySem PySem.Spec PyProof.Rows L2
/-- what a clause's test tells of an exception's class -/
def TestOk (X : Cx) (t : Expr) (ok : Value → Option Bool) : Prop :=
  ∀ (cls : Value) (b : Bool) (a : Addr) (oe : Obj) (pn : List (Addr × Obj)) (σ : L2.St) (H : Hp) (s : Shared) (Q : Bool → Shared → Prop) (E : Value → Shared → Prop), ok cls = some b → Inv (X.suite a ((a, oe) :: pn)) [] σ H s → PySem.W.Looks (model X.prog X.w) s.heap (typeOf (.ref a)) cls →
    (∀ h', (∀ q o, s.heap.get? q = some o → h'.get? q = some o) → Q b { s with heap := h' }) → wpAny (model X.prog X.w) (X.A.mark (some (.ref a))) (eval t X.env) (fun c s1 => wpAny (model X.prog X.w) (X.A.mark (some (.ref a))) (excMatches (.ref a) c) Q E s1) E s
section
variable {X : Cx}
end
/-- one clause: the slot of its name, its test, what its suite does -/
abbrev Hn := Option Nat × (Value → Option Bool) × (Addr → Value → Option Addr → TS)
def wNix (Wo : WX) (D : Ends) : List Hn → WX
  | [] => Wo
  | (oi, c, ts) :: r => fun cls d σ H => ∃ b, c cls = some b ∧ (b = true → ∀ a, H a = none → goS oi ts a cls d D σ H) ∧ (b = false → wNix Wo D r cls d σ H)
inductive HdsN (X : Cx) : List ExceptHandler → List Hn → Prop
  | nil : HdsN X [] []
  | cons {t : Expr} {c : Value → Option Bool} {oi : Option Nat} {on : Option Str} {ts : Addr → Value → Option Addr → TS} {b0 : Stmt} {suite : List Stmt} {pos' : Pos} {hds : List ExceptHandler} {l : List Hn}
      (hn : (oi = none ∧ on = none) ∨ ∃ i n, oi = some i ∧ on = some n ∧ X.N[i]? = some n ∧ X.env.kindOf n = some .local) (hc : TestOk X t c)
      (hu : ∀ (a : Addr) (oe : Obj) (cls : Value) (d : Option Addr) (pn : List (Addr × Obj)), Zc cls d oe → (∃ vs, oe.data = .fields vs) → PSs (X.suite a ((a, oe) :: pn)) (b0 :: suite) (ts a cls d)) (r : HdsN X hds l) :
      HdsN X (.ExceptHandler (some t) on (b0 :: suite) pos' :: hds) ((oi, c, ts) :: l)
section
variable {G : Tb} {W : WX} {X : Cx} {fx : List Nat}
/-- the clauses -/
inductive HdsH (G : Tb) (X : Cx) (fx : List Nat) : List ExceptHandler → List Hg → Prop
  | nil : HdsH G X fx [] []
  | cons {t : Expr} {c : Value → Option Bool} {oi : Option Nat} {on : Option Str} {m : Nat → Option Bool} {g : SF} {b0 : Stmt} {suite : List Stmt} {pos' : Pos} {hds : List ExceptHandler} {l : List Hg}
      (hn : (oi = none ∧ on = none) ∨ ∃ i n, oi = some i ∧ on = some n ∧ X.N[i]? = some n ∧ X.env.kindOf n = some .local ∧ i ∉ fx) (hc : TestOk X t c)
      (hm : ∀ k C ns b, G.cls k = some (C, ns) → m k = some b → c (.ref C) = some b)
      (hu : ∀ (a : Addr) (oe : Obj) (cls : Value) (d : Option Addr) (pn : List (Addr × Obj)), Zc cls d oe → (∃ vs, oe.data = .fields vs) → PSs (X.suite a ((a, oe) :: pn)) (b0 :: suite) (tEx (G.at (some (a, cls, d))) XRx W0 fx g)) (r : HdsH G X fx hds l) :
      HdsH G X fx (.ExceptHandler (some t) on (b0 :: suite) pos' :: hds) ((oi, m, g) :: l)
theorem HdsH.mix (B : X.K = G.K) {σ : L2.St} {A : Hid} {H : Hp} {env : Env} {D : Ends} : ∀ {hds : List ExceptHandler} {l : List Hg}, HdsH G X fx hds l → ∃ lm : List Hn, HdsN X hds lm ∧
    ∀ (x : Exc) (e : Env) (σ1 : L2.St) (A1 : Hid) (H1 : Hp) (c1 : Value) (d1 : Option Addr), Rep G A1 σ1 H1 e → Keep fx σ σ1 → Fr (Own σ env) A H (Own σ1 e) A1 H1 → XRx G x c1 d1 A1 H1 → PostS G XRx W fx D σ A H env (handG l x e) → wNix W D lm c1 d1 σ1 H1
  | _, _, .nil => ⟨[], .nil, fun x e σ1 A1 H1 c1 d1 R1 K1 F1 xr p => p σ1 A1 H1 c1 d1 R1 K1 F1 xr⟩
  | _, _, @HdsH.cons _ _ _ xn c oi on m g b0 suite pos' hds l hn hc hm hu r => by
    obtain ⟨lm, hk, ih⟩ := HdsH.mix B (σ := σ) (A := A) (H := H) (env := env) (D := D) r
    refine ⟨(oi, c, fun a cls d => tEx (G.at (some (a, cls, d))) XRx W0 fx g) :: lm, .cons (by
      rcases hn with z | ⟨i, n, z1, z2, z3, z4, _⟩
      · exact .inl z
      · exact .inr ⟨i, n, z1, z2, z3, z4⟩) hc hu hk, fun x e σ1 A1 H1 c1 d1 R1 K1 F1 xr p => ?_⟩
    obtain ⟨C, ns, hcl, rfl, xf⟩ := id xr
    unfold handG at p
    cases hmy : m x.cls with
    | none =>
      simp only [hmy] at p
      exact p.elim
    | some b =>
      refine ⟨b, hm _ _ _ _ hcl hmy, fun hb1 a na => ?_, fun hb1 => ?_⟩
      · subst hb1
        simp only [hmy] at p
        rcases hn with ⟨rfl, rfl⟩ | ⟨i, n, rfl, rfl, hi, hln, hfx⟩
        · simp only at p
          by_cases hx : e.all noX = true
          · rw [if_pos hx] at p
            refine ⟨A1, e, R1.atX hx, ?_⟩
            cases hg : g e with
            | none =>
              rw [hg] at p
              exact p
            | some r2 =>
              rw [hg] at p
              cases r2 with
              | ex _ _ => exact p.elim
              | ok fl e2 =>
                unfold leave0 at p
                simp only at p
                by_cases ho : e2.all noX = true
                · rw [if_pos ho] at p
                  have keep : ∀ {σ2 : L2.St}, Keep fx σ1 σ2 → Keep fx σ σ2 := fun kk j hj => (kk j hj).trans (K1 j hj)
                  cases fl with
                  | next => exact fun σ2 A2 H2 R3 K3 F3 => p σ2 A2 H2 (R3.unX ho) (keep K3) (F1.trans F3)
                  | brk => exact fun σ2 A2 H2 R3 K3 F3 => p σ2 A2 H2 (R3.unX ho) (keep K3) (F1.trans F3)
                  | cont => exact fun σ2 A2 H2 R3 K3 F3 => p σ2 A2 H2 (R3.unX ho) (keep K3) (F1.trans F3)
                  | ret o =>
                    intro σ2 A2 H2 v R3 K3 F3 ok
                    refine p σ2 A2 H2 v (R3.unX ho) (keep K3) (F1.trans F3) ?_
                    cases o with
                    | dat d => exact (RepD_at d v).mp ok
                    | fresh d =>
                      obtain ⟨q, e4, n4, a4, o4, t4⟩ := ok
                      exact ⟨q, e4, F1.none n4, a4, o4, (RepTop_at d q).mp t4⟩
                    | slot j => exact ok
                · rw [if_neg ho] at p
                  exact p.elim
          · rw [if_neg hx] at p
            exact p.elim
        · simp only at p
          cases hei : (e[i]? : Option (Option Cell)) with
          | none =>
            simp only [hei] at p
            exact p.elim
          | some ce =>
            cases ce with
            | some _ =>
              simp only [hei] at p
              exact p.elim
            | none =>
              simp only [hei] at p
              by_cases hx : e.all noX = true
              · rw [if_pos hx] at p
                have R2 := R1.toX (z := (a, .ref C, d1)) hx hei hcl rfl xf
                refine ⟨A1, e.set i (some (.exc x)), R2, ?_⟩
                have keep : ∀ {σ2 : L2.St}, Keep fx (σ1.set i (some (.ref a))) σ2 → Keep fx σ (σ2.set i none) ∧ Keep fx σ σ2 := fun {σ2} kk => by
                  refine ⟨fun j hj => ?_, fun j hj => ?_⟩
                  all_goals have hij : i ≠ j := fun q => hfx (q ▸ hj)
                  · rw [List.getElem?_set_ne hij, kk j hj, List.getElem?_set_ne hij]
                    exact K1 j hj
                  · rw [kk j hj, List.getElem?_set_ne hij]
                    exact K1 j hj
                have fr0 : ∀ {σ2 : L2.St} {A2 : Hid} {H2 : Hp} {e2 : Env}, Fr (Own (σ1.set i (some (.ref a))) (e.set i (some (.exc x)))) A1 H1 (Own σ2 e2) A2 H2 → Fr (Own σ env) A H (Own σ2 e2) A2 H2 := fun f2 => F1.trans (f2.moreO fun p q => own_toX hei q)
                cases hg : g (e.set i (some (.exc x))) with
                | none =>
                  rw [hg] at p
                  exact p
                | some r2 =>
                  rw [hg] at p
                  cases r2 with
                  | ex _ _ => exact p.elim
                  | ok fl e2 =>
                    unfold leaveX at p
                    simp only at p
                    by_cases ho : outX i fl = true ∧ (e2.set i none).all noX = true
                    · rw [if_pos ho] at p
                      cases fl with
                      | next => exact fun σ2 A2 H2 R3 K3 F3 => p (σ2.set i none) A2 H2 (R3.ofX ho.2 (.inr rfl)) (keep K3).1 ((fr0 F3).lessO fun q => own_clear)
                      | brk => exact fun σ2 A2 H2 R3 K3 F3 => p (σ2.set i none) A2 H2 (R3.ofX ho.2 (.inr rfl)) (keep K3).1 ((fr0 F3).lessO fun q => own_clear)
                      | cont => exact fun σ2 A2 H2 R3 K3 F3 => p (σ2.set i none) A2 H2 (R3.ofX ho.2 (.inr rfl)) (keep K3).1 ((fr0 F3).lessO fun q => own_clear)
                      | ret o =>
                        intro σ2 A2 H2 v R3 K3 F3 ok
                        refine p σ2 A2 H2 v (R3.ofX ho.2 (.inl rfl)) (keep K3).2 ((fr0 F3).lessO fun q => own_clear') ?_
                        cases o with
                        | dat d => exact (RepD_at d v).mp ok
                        | fresh d =>
                          obtain ⟨q, e4, n4, a4, o4, t4⟩ := ok
                          exact ⟨q, e4, F1.none n4, a4, fun z => o4 (own_clear' z), (RepTop_at d q).mp t4⟩
                        | slot j => exact ok
                    · rw [if_neg ho] at p
                      exact p.elim
              · rw [if_neg hx] at p
                exact p.elim
      · subst hb1
        simp only [hmy] at p
        exact ih x e σ1 A1 H1 _ d1 R1 K1 F1 xr p
end
end Tk
/-! Tk41: three names stored at once. -/
namespace Tk
open PySem PySem.Spec PyProof.Rows L2
section
variable {G : Tb} {XR : XW} {W : WX} {X : Cx} {fx : List Nat}
theorem rsl_fresh {o : Out} {e e1 : Env} {d : D} (h : rsl o e = some (.fresh d, e1)) : o = .fresh d := by
  cases o with
  | dat _ => cases h
  | fresh _ => cases h; rfl
  | slot m =>
    have h : (match use e (.slot m) with
      | some (.ok d e2) => some (RV.dat d, e2)
      | _ => none) = some (RV.fresh d, e1) := h
    split at h <;> cases h
/-- another out stays while a cell is stored -/
theorem setRV_other {σ : L2.St} {A : Hid} {H H0 : Hp} {e : Env} {i : Nat} {r s : RV} {v u : V} (R : Rep G A σ H e) (hi : i < e.length) (k3 : OutOk G H0 A σ H e r.out v) (k4 : OutOk G H0 A σ H e s.out u) (ap : ∀ d1 d2, r = .fresh d1 → s = .fresh d2 → v ≠ u) :
    OutOk G H0 A (σ.set i (some v)) H (e.set i (some r.cell)) s.out u := by
  obtain ⟨R5, w5⟩ := R.setRV hi k3
  cases s with
  | dat d => exact k4
  | fresh d =>
    obtain ⟨q, z1, z2, z3, z4, z5⟩ := k4
    refine ⟨q, z1, z2, z3, fun z => ?_, z5⟩
    rcases w5 q z with w | ⟨w, _⟩
    · exact z4 w
    · have hv : v = u := w.trans z1.symm
      cases r with
      | dat d1 =>
        obtain ⟨R6, w6⟩ := R.setDat hi (i := i) (v := v) k3
        exact z4 (w6 q z)
      | fresh d1 => exact ap d1 d rfl rfl hv
def parK3 (fx : List Nat) (i j l : Nat) (o1 o2 o3 : Out) (e : Env) : Option (Rs Fl) := match rsl o1 e with
  | some (r1, e1) => match rsl o2 e1 with
    | some (r2, e2) => match rsl o3 e2 with
      | some (r3, e3) => if i ∈ fx ∨ j ∈ fx ∨ l ∈ fx ∨ e3.length ≤ i ∨ e3.length ≤ j ∨ e3.length ≤ l then none else some (.ok .next (((e3.set i (some r1.cell)).set j (some r2.cell)).set l (some r3.cell)))
      | none => none
    | none => none
  | none => none
def sPar3 (fx : List Nat) (i j l : Nat) (f g h : EF) : SF := fun env => bd (f env) fun o1 e1 => bd (g e1) fun o2 e2 => bd (h e2) fun o3 e3 => parK3 fx i j l o1 o2 o3 e3
theorem es_par3 {i j l : Nat} {x y z : Str} {a b c : Expr} {px py pz pt pos : Pos} {kt k2 : Nat} {pt2 : Pos} {f g h : EF} (hc : X.calm = true) (hN : X.N.Nodup) (hi : X.N[i]? = some x) (hj : X.N[j]? = some y) (hl : X.N[l]? = some z) (hij : i ≠ j) (hil : i ≠ l) (hjl : j ≠ l)
    (hx : X.env.scope.names.lookup x = some .local) (hy : X.env.scope.names.lookup y = some .local) (hz : X.env.scope.names.lookup z = some .local) (ha : PE X a (tEv G XR W f)) (hb : PE X b (tEv G XR W g)) (hcc : PE X c (tEv G XR W h))
    (hw : swappedStores [.Tuple [.Name x px, .Name y py, .Name z pz] kt pt] (.Tuple [a, b, c] k2 pt2) X.env = pure (some [x, y, z]))
    (hs : swapsWithSole [.Tuple [.Name x px, .Name y py, .Name z pz] kt pt] (.Tuple [a, b, c] k2 pt2) pos.line X.env = pure false := by rfl) (hs1 : starEach [a, b, c] X.env = (false, eval a X.env) :: starEach [b, c] X.env := by rfl) (hs2 : starEach [b, c] X.env = (false, eval b X.env) :: starEach [c] X.env := by rfl) (hs3 : starEach [c] X.env = [(false, eval c X.env)] := by rfl) :
    PS X (.Assign [.Tuple [.Name x px, .Name y py, .Name z pz] kt pt] (.Tuple [a, b, c] k2 pt2) pos) (tEx G XR W fx (sPar3 fx i j l f g h)) :=
  PS_imp (ps_par3 hc hN hi hj hl hij hil hjl hx hy hz (pa_cons ha (pa_cons hb (pa_cons hcc pa_nil hs3) hs2) hs1) hw hs) fun D σ H ⟨A, env, R, p⟩ => by
    unfold sPar3 at p
    refine ⟨A, env, R, ?_⟩
    cases hf : f env with
    | none =>
      rw [hf] at p
      exact p
    | some r =>
      rw [hf] at p
      cases r with
      | ex x e1 => exact fun A1 H1 c d R1 F1 xr => p σ A1 H1 c d R1 (Keep.refl _ _) F1 xr
      | ok o1 e1 =>
        rw [bd_ok] at p
        intro A1 H1 R1 F1 v1 ok1
        refine ⟨A1, e1, R1, ?_⟩
        cases hg : g e1 with
        | none =>
          rw [hg] at p
          exact p
        | some r2 =>
          rw [hg] at p
          cases r2 with
          | ex x e2 => exact fun A2 H2 c d R2 F2 xr => p σ A2 H2 c d R2 (Keep.refl _ _) (F1.trans F2) xr
          | ok o2 e2 =>
            rw [bd_ok] at p
            intro A2 H2 R2 F2 v2 ok2
            refine ⟨A2, e2, R2, ?_⟩
            cases hh : h e2 with
            | none =>
              rw [hh] at p
              exact p
            | some r3 =>
              rw [hh] at p
              cases r3 with
              | ex x e3 => exact fun A3 H3 c d R3 F3 xr => p σ A3 H3 c d R3 (Keep.refl _ _) ((F1.trans F2).trans F3) xr
              | ok o3 e3 =>
                rw [bd_ok] at p
                intro A3 H3 R3 F3 v3 ok3
                refine ⟨v1, v2, v3, rfl, ?_⟩
                have ap12 : ∀ d1 d2, o1 = .fresh d1 → o2 = .fresh d2 → v1 ≠ v2 := fun d1 d2 q1 q2 z => by
                  subst q1 q2
                  obtain ⟨p1, w1, _, a1, _, _⟩ := ok1
                  obtain ⟨p2, w2, n2, _⟩ := ok2
                  rw [w1, w2] at z
                  cases z
                  obtain ⟨o, eo, _⟩ := R1.tup p1 a1
                  rw [n2] at eo
                  cases eo
                have ap13 : ∀ d1 d2, o1 = .fresh d1 → o3 = .fresh d2 → v1 ≠ v3 := fun d1 d2 q1 q2 z => by
                  subst q1 q2
                  obtain ⟨p1, w1, _, a1, _, _⟩ := ok1
                  obtain ⟨p2, w2, n2, _⟩ := ok3
                  rw [w1, w2] at z
                  cases z
                  obtain ⟨o, eo, _⟩ := R1.tup p1 a1
                  obtain ⟨o', eo'⟩ := F2.dom _ _ eo
                  rw [n2] at eo'
                  cases eo'
                have ap23 : ∀ d1 d2, o2 = .fresh d1 → o3 = .fresh d2 → v2 ≠ v3 := fun d1 d2 q1 q2 z => by
                  subst q1 q2
                  obtain ⟨p1, w1, _, a1, _, _⟩ := ok2
                  obtain ⟨p2, w2, n2, _⟩ := ok3
                  rw [w1, w2] at z
                  cases z
                  obtain ⟨o, eo, _⟩ := R2.tup p1 a1
                  rw [n2] at eo
                  cases eo
                have ok1' := (ok1.mono R1 F2).mono R2 F3
                have ok2' : OutOk G H A3 σ H3 e3 o2 v2 := (ok2.mono R2 F3).base fun p h => F1.none h
                have ok3' : OutOk G H A3 σ H3 e3 o3 v3 := ok3.base fun p h => F1.none (F2.none h)
                have F0 := (F1.trans F2).trans F3
                unfold parK3 at p
                split at p
                · rename_i r1 g1 h1
                  obtain ⟨B1, S1, E1, k1, w1, s1, kp1⟩ := rsl_ok R3 F0 ok1' h1
                  split at p
                  · rename_i r2 g2 h2
                    obtain ⟨B2, S2, E2, k2', w2, s2, kp2⟩ := rsl_ok S1 E1 (ok2'.less R3 w1 s1 kp1) h2
                    split at p
                    · rename_i r3 g3 h3
                      obtain ⟨B3, S3, E3, k3', w3, s3, kp3⟩ := rsl_ok S2 E2 ((ok3'.less R3 w1 s1 kp1).less S1 w2 s2 kp2) h3
                      have m1 := (k1.less S1 w2 s2 kp2).less S2 w3 s3 kp3
                      have m2 := k2'.less S2 w3 s3 kp3
                      split at p
                      · exact p.elim
                      · rename_i hcond
                        have c1 : i ∉ fx := fun z => hcond (.inl z)
                        have c2 : j ∉ fx := fun z => hcond (.inr (.inl z))
                        have c3 : l ∉ fx := fun z => hcond (.inr (.inr (.inl z)))
                        have c4 : i < g3.length := Nat.lt_of_not_le fun z => hcond (.inr (.inr (.inr (.inl z))))
                        have c5 : j < g3.length := Nat.lt_of_not_le fun z => hcond (.inr (.inr (.inr (.inr (.inl z)))))
                        have c6 : l < g3.length := Nat.lt_of_not_le fun z => hcond (.inr (.inr (.inr (.inr (.inr z)))))
                        have a12 : ∀ d1 d2, r1 = .fresh d1 → r2 = .fresh d2 → v1 ≠ v2 := fun d1 d2 q1 q2 => ap12 d1 d2 (rsl_fresh (q1 ▸ h1)) (rsl_fresh (q2 ▸ h2))
                        have a13 : ∀ d1 d2, r1 = .fresh d1 → r3 = .fresh d2 → v1 ≠ v3 := fun d1 d2 q1 q2 => ap13 d1 d2 (rsl_fresh (q1 ▸ h1)) (rsl_fresh (q2 ▸ h3))
                        have a23 : ∀ d1 d2, r2 = .fresh d1 → r3 = .fresh d2 → v2 ≠ v3 := fun d1 d2 q1 q2 => ap23 d1 d2 (rsl_fresh (q1 ▸ h2)) (rsl_fresh (q2 ▸ h3))
                        obtain ⟨R5, w5⟩ := S3.setRV c4 m1
                        have n2 := setRV_other S3 c4 m1 m2 a12
                        have n3 := setRV_other S3 c4 m1 k3' a13
                        have c5' : j < (g3.set i (some r1.cell)).length := by rw [List.length_set]; exact c5
                        obtain ⟨R6, w6⟩ := R5.setRV c5' n2
                        have n3' := setRV_other R5 c5' n2 n3 a23
                        obtain ⟨R7, w7⟩ := R6.setRV (i := l) (by rw [List.length_set, List.length_set]; exact c6) n3'
                        refine p _ B3 H3 R7 ?_ (E3.less fun q z => ?_)
                        · exact ((keep_set c1).trans (keep_set c2)).trans (keep_set c3)
                        · rcases w7 q z with w | ⟨_, w⟩
                          · rcases w6 q w with w' | ⟨_, w'⟩
                            · rcases w5 q w' with w'' | ⟨_, w''⟩
                              · exact .inl w''
                              · exact .inr w''
                            · exact .inr w'
                          · exact .inr w
                    · exact p.elim
                  · exact p.elim
                · exact p.elim
end
end Tk
/-! TkX: own exceptions with fields, over any builtin base (by the library's facts of the base). -/
namespace Tk
section
open PySem PySem.W PySem.Calls PyProof.Rows PySem.HandSPX Builtin Builtin.ObjectAttr
variable {prog : Program} {w : World} {A : Around} {E : Value → Shared → Prop} {R : Result → Shared → Prop} {hp : Heap} {g : Array GenState} {d : Drawn} {t : Nat} {os : OsState} {B : String} {bmB : List Value}
theorem has_cd {K : W.Frag} {C : Addr} (h : hasDictIn K C = true) : ∃ cd, clsIn K C = some cd ∧ cd.hasDict = true := by
  unfold hasDictIn at h
  cases hc : clsIn K C with
  | none => rw [hc] at h; cases h
  | some cd => rw [hc] at h; exact ⟨cd, rfl, h⟩
theorem asa_new {K : W.Frag} {name : Str} {tk : Tok} {v : Value} {x C : Addr} {fv : Array Value} (SF : StoreFacts B bmB "object.__setattr__" "object")
    (X : K.In hp) (hx : hp.get? x = some { cls := .ref C, data := .fields fv }) (ov : excOver K C bmB = true) (hh : hasDictIn K C = true) (ha : W.findIn K (.ref C) name = some none)
    (hq : ∀ h' tk' dx, (∀ b o, b ≠ x → hp.get? b = some o → h'.get? b = some o) → hp.objs.size ≤ dx → dx ≠ x → h'.get? x = some { cls := .ref C, dict := some dx, data := .fields fv } →
      h'.Ns1 dx (fun y => if y = name then some v else none) → R (.ok (.ret .none)) ⟨h', g, d, tk', os⟩) :
    codeAny (model prog w) A (.call (.builtin "object.__setattr__") ⟨[.ref x, .str name tk, v], []⟩) R ⟨hp, g, d, t, os⟩ := by
  have I : W.InstAt hp x { cls := .ref C, data := .fields fv } C none := ⟨hx, rfl, rfl, trivial⟩
  have hxs : x ≠ hp.objs.size := Nat.ne_of_lt (Heap.lt_size hx)
  obtain ⟨cd, hcd, hd⟩ := has_cd hh
  have hcls : W.Looks (model prog w) hp (classData C) cd := W.looks_clsIn X hcd
  refine osa_openX (r := none) SF X I ov (by unfold takerIn; rw [ha]; rfl) fun b => ?_
  show wpAny _ _ (storeInOwnDict (.ref x) (.ref C) (.str name tk) name v b) _ _ _
  obtain ⟨nm, bs, mro, ns, qn, hd', sn, sb, ab, col, del⟩ := cd
  dsimp only at hd
  subst hd
  unfold storeInOwnDict ownDictForStores
  repeat (first | with_reducible refine store_in_new ?_ ?_ | with_reducible refine wpAny_loadPart_at hx ?_ | with_reducible refine hcls.at ?_ | wp_step)
  · exact ⟨_, #[], _, (Heap.get?_update_ne _ _ _ _ hxs.symm).trans (Heap.get?_push_at rfl rfl), rfl, fun e he => absurd he (by simp), fun _ => rfl⟩
  · intro h' tk' hn' hs
    have hx₁ : (hp.push { cls := .type "dict", data := .dict #[] }).get? x = some { cls := .ref C, data := .fields fv } := Heap.get?_push_of_some _ hx
    refine hq h' tk' hp.objs.size (fun b o hb ho => ?_) (Nat.le_refl _) hxs.symm ?_ hn'
    · exact (hs.2 b (Nat.ne_of_lt (Heap.lt_size ho))).trans ((Heap.get?_update_ne _ _ _ _ hb).trans (Heap.get?_push_of_some _ ho))
    · exact (hs.2 x hxs).trans (Heap.get?_update_self _ hx₁ rfl)
theorem asa_old {K : W.Frag} {name : Str} {tk : Tok} {v : Value} {x C dx : Addr} {fv : Array Value} {m0 : Str → Option Value} {nl : List Str} (SF : StoreFacts B bmB "object.__setattr__" "object")
    (X : K.In hp) (hx : hp.get? x = some { cls := .ref C, dict := some dx, data := .fields fv }) (hns : hp.Ns1 dx m0) (hw : Within m0 nl) (hz : nl.length ≤ 1000) (ov : excOver K C bmB = true) (hh : hasDictIn K C = true) (ha : W.findIn K (.ref C) name = some none)
    (hq : ∀ h' tk', (∀ b o, b ≠ dx → hp.get? b = some o → h'.get? b = some o) → h'.Ns1 dx (fun y => if y = name then some v else m0 y) → R (.ok (.ret .none)) ⟨h', g, d, tk', os⟩) :
    codeAny (model prog w) A (.call (.builtin "object.__setattr__") ⟨[.ref x, .str name tk, v], []⟩) R ⟨hp, g, d, t, os⟩ := by
  obtain ⟨oD, esD, epD, hoD, hdD, _⟩ := hns.count hw
  have I : W.InstAt hp x { cls := .ref C, dict := some dx, data := .fields fv } C (some oD) := ⟨hx, rfl, rfl, hoD⟩
  obtain ⟨cd, hcd, hd⟩ := has_cd hh
  have hcls : W.Looks (model prog w) hp (classData C) cd := W.looks_clsIn X hcd
  refine osa_openX (r := none) SF X I ov (by unfold takerIn; rw [ha]; rfl) fun b => ?_
  show wpAny _ _ (storeInOwnDict (.ref x) (.ref C) (.str name tk) name v b) _ _ _
  obtain ⟨nm, bs, mro, ns, qn, hd', sn, sb, ab, col, del⟩ := cd
  dsimp only at hd
  subst hd
  unfold storeInOwnDict ownDictForStores
  repeat (first | with_reducible refine PySem.OEX.store_in_old hns hw hz ?_ | with_reducible refine wpAny_loadPart_at hx ?_ | with_reducible refine hcls.at ?_ | wp_step)
  intro h' tk' hn' hs
  exact hq h' tk' (fun b o hb ho => (hs.2 b hb).trans ho) hn'
end
open PySem PySem.Spec PyProof.Rows L2
/-- what must be known of a builtin base -/
structure ExB (B newId initId : String) (bmB : List Value) : Prop where
  ex : ExcBaseFacts B newId initId bmB
  sf : StoreFacts B bmB "object.__setattr__" "object"
theorem exB_Arith : ExB "ArithmeticError" "ArithmeticError.__new__" "ArithmeticError.__init__" [.type "ArithmeticError", .type "Exception", .type "BaseException", .type "object"] := ⟨PySem.F.excBase_ArithmeticError, PySem.F.store_ArithmeticError⟩
structure AexC (K : PySem.W.Frag) (C : Addr) (newId : String) (bmB : List Value) : Prop where
  cls : PySem.W.excInitIn K C bmB newId = true
  ov : PySem.W.excOver K C bmB = true
  hd : PySem.W.hasDictIn K C = true
  sa : PySem.W.findIn K (.ref C) "__setattr__" = some (some (.builtin "object.__setattr__"))
  exC : PySem.W.subIn K (.ref C) (.type "BaseException") = some true
  tyC : PySem.W.typeIn K (.ref C) = some (.type "type")
  kC : PySem.W.keepIn K (.ref C) = true
section
variable {X : Cx} {pins : List (Addr × Obj)} {σ : L2.St} {H : Hp} {s : Shared} {a C dx : Addr} {f : Str} {y : V} {u : Value} {fs : List (Str × V)} {E : Value → Shared → Prop} {A : Around} {B newId initId : String} {bmB : List Value}
theorem aost_new {Q : Unit → Shared → Prop} (Z : ExB B newId initId bmB) (T : AexC X.K C newId bmB) (I : Inv X pins σ H s) (e : H a = some (exo a C none)) (hno : PySem.W.findIn X.K (.ref C) f = some none) (ry : RelV y u)
    (h : ∀ dx s', H dx = none → dx ≠ a → Inv X pins σ (upd (upd H dx (exd dx [(f, y)])) a (exo a C (some dx))) s' → Q () s') : wpAny (model X.prog X.w) A (setAttr (.ref a) f u) Q E s := by
  obtain ⟨t1, ho⟩ := exo_at I.hok e
  obtain ⟨hp, g, d, t, os⟩ := s
  refine PySem.W.set_plain I.kIn (ox := { cls := .ref C, dict := none, data := .fields #[.ref t1, .none, .none, .none, .bool false, .none] }) (od := none) ⟨ho, rfl, rfl, trivial⟩ T.sa ?_
  refine asa_new Z.sf I.kIn ho T.ov T.hd hno (fun h' tk' dx k dn dne hx hn => ?_)
  have hnd : H dx = none := I.hok.fresh dn
  have nd : ∀ {b : Addr} {o : Obj}, hp.get? b = some o → b ≠ dx := fun {b o} q => Nat.ne_of_lt (Nat.lt_of_lt_of_le (Heap.lt_size q) dn)
  have na : ∀ {b : Addr}, H b = none → b ≠ a := fun {b} n z => by
    rw [z, e] at n
    cases n
  have Un1 : Un X.fs [] H (upd (upd H dx (exd dx [(f, y)])) a (exo a C (some dx))) hp h' := {
    keep := fun b o q n _ _ => k b o (na n) q
    slot := fun b o q n _ _ => ⟨o.slots, k b o (na n) q⟩
    free := fun b o q n _ => by rw [upd_ne (na n), upd_ne (nd q)]; exact n
    there := fun b o q _ => by
      by_cases hb : b = a
      · exact ⟨_, by rw [hb]; exact hx⟩
      · exact ⟨o, k b o hb q⟩
    tups := fun b xs q => by rw [upd_ne (at_ne e q exo_tup), upd_ne (ne_of_none q hnd)]; exact q
    frzs := fun b o v q => by rw [upd_ne (at_ne e q exo_frz), upd_ne (ne_of_none q hnd)]; exact q
    tbls := fun b ps q => ⟨#[], by rw [upd_ne (at_ne e q exo_tbl), upd_ne (ne_of_none q hnd), q]; simp⟩ }
  refine h dx _ hnd dne (I.un (t' := tk') Un1 fun b o q => ?_)
  by_cases hb : b = a
  · subst hb
    rw [upd_same] at q
    cases q
    exact exo_ok hx
  · rw [upd_ne hb] at q
    by_cases hd : b = dx
    · subst hd
      rw [upd_same] at q
      cases q
      exact exd_ok hn (relO_put (fs := []) ry fun g => True.intro)
    · rw [upd_ne hd] at q
      exact (I.hok b o q).stay (fun c v hc z => k c v (by
          rcases hc with hc | hc
          · rw [hc]
            exact hb
          · exact at_ne e hc exo_own) z)
        (fun c hc => by rw [upd_ne (at_ne e hc exo_own), upd_ne (ne_of_none hc hnd)]; exact hc) (fun c xs hc => by rw [upd_ne (at_ne e hc exo_tup), upd_ne (ne_of_none hc hnd)]; exact hc)
theorem aost_old {Q : Unit → Shared → Prop} (Z : ExB B newId initId bmB) (T : AexC X.K C newId bmB) (I : Inv X pins σ H s) (e : H a = some (exo a C (some dx))) (ed : H dx = some (exd dx fs)) (hl : fs.length ≤ 900) (hno : PySem.W.findIn X.K (.ref C) f = some none) (ry : RelV y u)
    (h : ∀ s', Inv X pins σ (upd H dx (exd dx ((f, y) :: fs))) s' → Q () s') : wpAny (model X.prog X.w) A (setAttr (.ref a) f u) Q E s := by
  obtain ⟨t1, ho⟩ := exo_at I.hok e
  obtain ⟨mA, hns, rel⟩ := exd_at I.hok ed
  have hw := within_of rel
  obtain ⟨hp, g, d, t, os⟩ := s
  obtain ⟨oD, _, _, hoD, _, _⟩ := hns.count hw
  refine PySem.W.set_plain I.kIn (ox := { cls := .ref C, dict := some dx, data := .fields #[.ref t1, .none, .none, .none, .bool false, .none] }) (od := some oD) ⟨ho, rfl, rfl, hoD⟩ T.sa ?_
  refine asa_old Z.sf I.kIn ho hns hw (by rw [List.length_map]; omega) T.ov T.hd hno (fun h' tk' k hn => ?_)
  have hd : ∃ o, h'.get? dx = some o := by
    obtain ⟨o, _, _, e', _⟩ := hn
    exact ⟨o, e'⟩
  exact h _ (I.write (t' := tk') (x := dx) (e := dx) (o := exd dx ((f, y) :: fs)) (by rw [ed]; exact True.intro) (.inl rfl) k hd (exd_ok hn (relO_put ry rel)))
theorem ainit_ok {us : List Value} {Q : Value → Shared → Prop} (Z : ExB B newId initId bmB) (T : AexC X.K C newId bmB) (I : Inv X pins σ H s) (e : H a = some (exo a C none)) (hl : us.length ≤ sizeLine) (h : ∀ s', Inv X pins σ H s' → Q .none s') :
    wpAny (model X.prog X.w) A (call (.builtin initId) (.ref a :: us)) Q E s := by
  obtain ⟨t1, ho⟩ := exo_at I.hok e
  obtain ⟨nm, N, q, bs, bm, hdct, sn, sub, ab, col, dd, k0, k1, k2, k3, k5, hC, hT⟩ := PySem.W.excInit_of I.kIn T.cls
  obtain ⟨hp, g, d, t, os⟩ := s
  refine wpAny_call (PySem.HandSPX.init_base Z.ex hT hC ho hl fun h' t2 k hx => ?_)
  have J := I.write (t' := t) (x := a) (e := a) (o := exo a C none) (by rw [e]; exact True.intro) (.inl rfl) k ⟨_, hx⟩ (exo_ok hx)
  have eu : upd H a (exo a C none) = H := by
    funext b
    by_cases hb : b = a
    · rw [hb, upd_same, e]
    · rw [upd_ne hb]
  rw [eu] at J
  exact h _ J
end
/-- B.__init__(self, ..) | self.f = e -/
def tAeI (K : PySem.W.Frag) (newId : String) (bmB : List Value) (ta : TA) : TE := fun σ H Q => ta σ H fun vs H1 => ∃ (a C : Addr) (ws : List V), vs = .ref a :: ws ∧ ws.length ≤ 1000 ∧ AexC K C newId bmB ∧ H1 a = some (exo a C none) ∧ Q .non H1
def tAst (K : PySem.W.Frag) (newId : String) (bmB : List Value) (f : Str) (to te : TE) : TS := fun D σ H => te σ H fun y H1 => to σ H1 fun x H2 => ∃ a C : Addr, x = .ref a ∧ AexC K C newId bmB ∧ PySem.W.findIn K (.ref C) f = some none ∧
  ((H2 a = some (exo a C none) ∧ ∀ dx, H2 dx = none → dx ≠ a → D.nx σ (upd (upd H2 dx (exd dx [(f, y)])) a (exo a C (some dx)))) ∨
    ∃ (dx : Addr) (fs : List (Str × V)), H2 a = some (exo a C (some dx)) ∧ H2 dx = some (exd dx fs) ∧ fs.length ≤ 900 ∧ D.nx σ (upd H2 dx (exd dx ((f, y) :: fs))))
section
variable {X : Cx} {o e : Expr} {es : List Expr} {to te : TE} {ta : TA} {f : Str} {p p' p1 p2 pos : Pos} {B newId initId : String} {bmB : List Value}
theorem ps_ast (Z : ExB B newId initId bmB) (ho : PE X o to) (he : PE X e te) (hs : swapsWith e (some (.Attribute o f p')) pos.line X.env = pure false := by rfl) : PS X (.Assign [.Attribute o f p'] e pos) (tAst X.K newId bmB f to te) := by
  refine ⟨fun pins s σ H D I h => ?_⟩
  refine plainObj_wpAny_Assign_Attribute (thn (he.run pins s σ H _ I h) fun v s1 ⟨y, H1, I1, r1, q1⟩ => thn (ho.run pins s1 σ H1 _ I1 q1) fun u s2 ⟨x, H2, I2, r2, a, C, ex, T, hno, q⟩ => ?_) hs
  subst ex
  obtain rfl : u = Value.ref a := r2
  rcases q with ⟨ea, q⟩ | ⟨dx, fs, ea, ed, hl, q⟩
  · exact aost_new Z T I2 ea hno r1 fun dx s' n ne J => ⟨σ, _, J, q dx n ne⟩
  · exact aost_old Z T I2 ea ed hl hno r1 fun s' J => ⟨σ, _, J, q⟩
/-- ArithmeticError.__init__(self, ..) -/
theorem typ_AE : typeOf (.type "ArithmeticError") = pure (.type "type") := by kernel_rfl
theorem pe_aeinit {pl : Sem Bool} (hg : Gl X "ArithmeticError") (hm : X.mg "ArithmeticError" = none) (vV : PySem.W.findCls X.K (.type "ArithmeticError") (.type "type") "__init__" = some (.val (.builtin "ArithmeticError.__init__"))) (ha : PA X (e :: es) ta)
    (hc : eval (.Call (.Attribute (.Name "ArithmeticError" p1) "__init__" p2) (e :: es) [] pos) X.env = (do
      let ov ← eval (.Name "ArithmeticError" p1) X.env
      standAt p2.atName
      let (f, first) ← holding [ov] (getMethod ov "__init__" pl)
      callWith pos f first (backTo pos (starEach (e :: es) X.env)) (backToKw pos (keywordEach [] X.env))) := by rfl)
    (he : starEach (e :: es) X.env = (false, eval e X.env) :: starEach es X.env := by rfl) (hpl : (backTo pos (starEach es X.env)).any (·.1) = false := by rfl) :
    PE X (.Call (.Attribute (.Name "ArithmeticError" p1) "__init__" p2) (e :: es) [] pos) (tAeI X.K "ArithmeticError.__new__" [.type "ArithmeticError", .type "Exception", .type "BaseException", .type "object"] ta) := by
  refine ⟨fun pins s σ H Q I h => ?_⟩
  refine PySem.W.methodCall_KW (ld_blt I hg hm PyProof.Rows.Boot.«ArithmeticError» ?_ (by decide) (by decide)) hc
  obtain ⟨m, fr⟩ := I.fr
  refine PySem.W.method_type fr I.ok.mod.kin typ_AE (by decide +kernel) vV (by decide +kernel) ?_
  show wpAny _ _ (callWith pos (Value.builtin "ArithmeticError.__init__") [] (backTo pos (starEach (e :: es) X.env)) []) _ _ _
  refine PyProof.Rows.callWith_method1 (thn (ha.run pos pins _ σ H _ (I.tok _) h) fun us s1 ⟨vs, H1, I1, r1, a, C, ws, ev, hl, T, ea, q⟩ => ?_) he hpl
  subst ev
  cases r1 with
  | @cons _ u0 _ ur ra rr =>
    obtain rfl : u0 = Value.ref a := ra
    have few : ur.length ≤ sizeLine := by
      rw [← Paired.length rr, sizeLine_eq]
      omega
    exact ainit_ok exB_Arith T I1 ea few fun s' J => ⟨.non, H1, J, rfl, q⟩
end
/-- such a class, its __init__ -/
structure XaI (P : Program) (w : World) (K : PySem.W.Frag) (mg : Str → Option Value) (base : Heap) (newId : String) (bmB : List Value) (C : Addr) (ns ps : List Str) (fI : Addr) (fd : FuncData) : Prop where
  T : AexC K C newId bmB
  iC : PySem.W.findIn K (.ref C) "__init__" = some (some (.ref fI))
  tI : PySem.W.typeIn K (.ref fI) = some (.type "function")
  fn : FnOk P w K mg base (L2.CX P w) 1 fI fd ps (spI C ns)
  bd : Binds K fd ps []
/-- one field -/
theorem inita1 {X : Cx} {C : Addr} {f m : Str} {s0 s1 : Stmt} {D : Ends} {N : List Str} {vs : List V} {H : Hp} {Q : VK} {E : XK} {newId : String} {bmB : List Value} (T : AexC X.K C newId bmB) (n1 : PySem.W.findIn X.K (.ref C) f = some none)
    (h0 : PS X s0 (tDrop (tAeI X.K newId bmB (tCons (tVar 0) (tCons (tC (.str m)) tNil))))) (h1 : PS X s1 (tAst X.K newId bmB f (tVar 0) (tVar 1))) (h : spI C [f] vs H Q E) (hN : N.length = 2) :
    ∃ t, PSs X [s0, s1] t ∧ t { nx := fun _ H' => Q .non H', rt := Q } (L2.start N vs) H := by
  obtain ⟨a, ys, rfl, hl, ea, q⟩ := h
  match ys, hl with
  | [y], _ =>
    match N, hN with
    | [x0, x1], _ =>
      refine ⟨_, pss_cons h0 (pss_one h1), ?_⟩
      have v0 : (L2.start [x0, x1] [V.ref a, y])[0]? = some (some (.ref a)) := rfl
      have v1 : (L2.start [x0, x1] [V.ref a, y])[1]? = some (some y) := rfl
      refine ⟨_, v0, a, C, [.str m], rfl, by simp, T, ea, ?_⟩
      exact ⟨_, v1, _, v0, a, C, rfl, T, n1, .inl ⟨ea, fun d n ne => q d n ne⟩⟩
/-- two fields -/
theorem inita2 {X : Cx} {C : Addr} {f g m : Str} {s0 s1 s2 : Stmt} {D : Ends} {N : List Str} {vs : List V} {H : Hp} {Q : VK} {E : XK} {newId : String} {bmB : List Value} (T : AexC X.K C newId bmB) (n1 : PySem.W.findIn X.K (.ref C) f = some none) (n2 : PySem.W.findIn X.K (.ref C) g = some none)
    (h0 : PS X s0 (tDrop (tAeI X.K newId bmB (tCons (tVar 0) (tCons (tC (.str m)) tNil))))) (h1 : PS X s1 (tAst X.K newId bmB f (tVar 0) (tVar 1))) (h2 : PS X s2 (tAst X.K newId bmB g (tVar 0) (tVar 2))) (h : spI C [f, g] vs H Q E) (hN : N.length = 3) :
    ∃ t, PSs X [s0, s1, s2] t ∧ t { nx := fun _ H' => Q .non H', rt := Q } (L2.start N vs) H := by
  obtain ⟨a, ys, rfl, hl, ea, q⟩ := h
  match ys, hl with
  | [y, z], _ =>
    match N, hN with
    | [x0, x1, x2], _ =>
      refine ⟨_, pss_cons h0 (pss_cons h1 (pss_one h2)), ?_⟩
      have v0 : (L2.start [x0, x1, x2] [V.ref a, y, z])[0]? = some (some (.ref a)) := rfl
      have v1 : (L2.start [x0, x1, x2] [V.ref a, y, z])[1]? = some (some y) := rfl
      have v2 : (L2.start [x0, x1, x2] [V.ref a, y, z])[2]? = some (some z) := rfl
      refine ⟨_, v0, a, C, [.str m], rfl, by simp, T, ea, ?_⟩
      refine ⟨_, v1, _, v0, a, C, rfl, T, n1, .inl ⟨ea, fun d n ne => ?_⟩⟩
      refine ⟨_, v2, _, v0, a, C, rfl, T, n2, .inr ⟨d, [(f, y)], by rw [upd_same], by rw [upd_ne ne, upd_same], by simp, ?_⟩⟩
      have := q d n ne
      have e : upd (upd (upd H d (exd d [(f, y)])) a (exo a C (some d))) d (exd d [(g, z), (f, y)]) = upd (upd H d (exd d [(g, z), (f, y)])) a (exo a C (some d)) := by
        funext b
        by_cases hb : b = a
        · subst hb
          rw [upd_ne (Ne.symm ne), upd_same, upd_same]
        · by_cases hd : b = d
          · subst hd
            rw [upd_same, upd_ne hb, upd_same]
          · rw [upd_ne hd, upd_ne hb, upd_ne hd, upd_ne hb, upd_ne hd]
      show Q .non _
      rw [e]
      exact this
section
variable {G : Tb} {W : WX} {X : Cx} {fx : List Nat}
end
end Tk
/-! Tk56: exceptions as data: made, asked for their class, their fields read. -/
namespace Tk
open PySem PySem.Spec PyProof.Rows L2
theorem exB_Value : ExB "ValueError" "ValueError.__new__" "ValueError.__init__" [.type "ValueError", .type "Exception", .type "BaseException", .type "object"] := ⟨PySem.F.excBase_ValueError, PySem.F.store_ValueError⟩
theorem exB_Lookup : ExB "LookupError" "LookupError.__new__" "LookupError.__init__" [.type "LookupError", .type "Exception", .type "BaseException", .type "object"] := ⟨PySem.F.excBase_LookupError, PySem.F.store_LookupError⟩
theorem exB_Runtime : ExB "RuntimeError" "RuntimeError.__new__" "RuntimeError.__init__" [.type "RuntimeError", .type "Exception", .type "BaseException", .type "object"] := ⟨PySem.F.excBase_RuntimeError, PySem.F.store_RuntimeError⟩
/-- B.__init__(self, ..), B a class of the program whose __init__ is its builtin base's -/
theorem pe_aclsInit {X : Cx} {B0 newId initId : String} {bmB : List Value} {e : Expr} {es : List Expr} {ta : TA} {p1 p2 pos : Pos} {pl : Sem Bool} {x : Str} {B : Addr} {mc : Value} (Z : ExB B0 newId initId bmB) (hg : Gl X x) (hm : X.mg x = some (.ref B)) (sg : PySem.W.specialIn X.K (.ref B) "__getattribute__" = some (some (.builtin "type.__getattribute__"))) (rd : PySem.W.readsIn X.K B mc = true)
    (fv : PySem.W.findCls X.K (.ref B) mc "__init__" = some (.val (.builtin initId))) (hv : PySem.W.handedIn (.builtin initId) = true) (ha : PA X (e :: es) ta)
    (hc : eval (.Call (.Attribute (.Name x p1) "__init__" p2) (e :: es) [] pos) X.env = (do
      let ov ← eval (.Name x p1) X.env
      standAt p2.atName
      let (f, first) ← holding [ov] (getMethod ov "__init__" pl)
      callWith pos f first (backTo pos (starEach (e :: es) X.env)) (backToKw pos (keywordEach [] X.env))) := by rfl)
    (hdb : (x == ("__debug__" : Str)) = false := by decide) (he : starEach (e :: es) X.env = (false, eval e X.env) :: starEach es X.env := by rfl) (hpl : (backTo pos (starEach es X.env)).any (·.1) = false := by rfl) :
    PE X (.Call (.Attribute (.Name x p1) "__init__" p2) (e :: es) [] pos) (tAeI X.K newId bmB ta) := by
  refine ⟨fun pins s σ H Q I h => PySem.W.methodCall_KW (ld_glob I hg hm ?_ hdb) hc⟩
  refine PySem.W.method_cls I.kIn sg (PySem.W.cls_value I.kIn rd fv hv ?_)
  show wpAny _ _ (callWith pos (Value.builtin initId) [] (backTo pos (starEach (e :: es) X.env)) []) _ _ _
  refine PyProof.Rows.callWith_method1 (thn (ha.run pos pins _ σ H _ (I.tok _) h) fun us s1 ⟨vs, H1, J, r, a, C, ws, ev, hl, T, ea, q⟩ => ?_) he hpl
  subst ev
  cases r with
  | @cons _ u0 _ ur ra rr =>
    obtain rfl : u0 = Value.ref a := ra
    have few : ur.length ≤ sizeLine := by
      rw [← Paired.length rr, sizeLine_eq]
      omega
    exact ainit_ok Z T J ea few fun s' J2 => ⟨.non, H1, J2, rfl, q⟩
/-- C(e, ..), C's own __init__ keeping sp: the new object -/
def tMkV (C : Addr) (sp : Sp) (ta : TA) : TE := fun σ H Q => ta σ H fun vs H1 => vs.length ≤ 1000 ∧ ∀ a, H1 a = none → sp (.ref a :: vs) (upd H1 a (exo a C none)) (fun v H2 => v = .non ∧ Q (.ref a) H2) (fun _ _ _ => False)
theorem pe_mkx {X : Cx} {CX : CXT} {B newId initId : String} {bmB : List Value} {e : Expr} {es : List Expr} {ta : TA} {p pos : Pos} {x : Str} {C fI : Addr} {k : Nat} {fd : FuncData} {ps : List Str} {sp : Sp} (Z : ExB B newId initId bmB) (T : AexC X.K C newId bmB) (iC : PySem.W.findIn X.K (.ref C) "__init__" = some (some (.ref fI))) (tI : PySem.W.typeIn X.K (.ref fI) = some (.type "function"))
    (F1 : FnOk X.prog X.w X.K X.mg X.base CX k fI fd ps sp) (hr : Room (k + 1) X.A) (hb : Binds X.K fd ps []) (hx : Passes CX X (fun _ _ _ => False)) (hg : Gl X x) (hm : X.mg x = some (.ref C)) (ha : PA X (e :: es) ta)
    (hdb : (x == ("__debug__" : Str)) = false := by decide) (he : starEach (e :: es) X.env = (false, eval e X.env) :: starEach es X.env := by rfl) (hpl : (backTo pos (starEach es X.env)).any (·.1) = false := by rfl) :
    PE X (.Call (.Name x p) (e :: es) [] pos) (tMkV C sp ta) := by
  refine ⟨fun pins s σ H Q I h => ?_⟩
  refine wpAny_Call_Name_kw (ld_glob I hg hm ?_ hdb)
  refine PySem.W.callWith_K (h₀ := X.base) I.ok.mod.kin T.kC (thn (ha.run pos pins s σ H _ I h) fun us s1 ⟨vs, H1, I1, r1, hz, q1⟩ => ⟨I1.kIn, ?_⟩) he hpl
  show wpAny _ _ (call (.ref C) us) _ _ _
  obtain ⟨nm, N, q, bs, bm, hdct, sn, sub, ab, col, dd, k0, k1, k2, k3, k5, hC, hT⟩ := PySem.W.excInit_of I1.kIn T.cls
  obtain ⟨hp, g, dr, tk, os⟩ := s1
  have up : hp.objs.size ≤ hp.objs.size + 1 := Nat.le_succ _
  have hn : H1 (hp.objs.size + 1) = none := I1.hok.fresh up
  have hq := q1 (hp.objs.size + 1) hn
  have kk : ∀ b o, hp.get? b = some o → ((hp.push (PySem.W.kdv_tup us)).push (PySem.HandSPX.excO C hp.objs.size)).get? b = some o := fun b o e => Heap.get?_push_of_some _ (Heap.get?_push_of_some _ e)
  have new : ((hp.push (PySem.W.kdv_tup us)).push (PySem.HandSPX.excO C hp.objs.size)).get? (hp.objs.size + 1) = some (PySem.HandSPX.excO C hp.objs.size) := by heap_get
  have I2 : Inv X pins σ (upd H1 (hp.objs.size + 1) (exo (hp.objs.size + 1) C none)) ⟨(hp.push (PySem.W.kdv_tup us)).push (PySem.HandSPX.excO C hp.objs.size), g, dr, tk, os⟩ :=
    I1.laid (t' := tk) (a := hp.objs.size + 1) (o := exo (hp.objs.size + 1) C none) (h' := (hp.push (PySem.W.kdv_tup us)).push (PySem.HandSPX.excO C hp.objs.size)) kk up (exo_ok new)
  have r2 : Vals (V.ref (hp.objs.size + 1) :: vs) (Value.ref (hp.objs.size + 1) :: us) := .cons rfl r1
  have hl : (Value.ref (hp.objs.size + 1) :: us ++ ([] : List Value)).length = ps.length := by
    have e := r2.length
    rw [F1.len _ _ _ _ hq] at e
    rw [List.append_nil]
    exact e.symm
  have few : us.length ≤ sizeLine := by
    rw [← Paired.length r1, sizeLine_eq]
    omega
  have bd := hb _ (Value.ref (hp.objs.size + 1) :: us) I2.kIn hl
  rw [List.append_nil] at bd
  refine wpAny_call (PySem.HandSPX.call_own Z.ex hT hC (PySem.W.looks_findIn I1.kIn iC) (fun self => PySem.W.bind_fn I1.kIn self tI) few
    (codeAny_mono (F1.run _ X.stack _ _ ⟨Value.ref (hp.objs.size + 1) :: us, []⟩ (Value.ref (hp.objs.size + 1) :: us) _ _ (fun _ _ _ => False) (hr.make C us []) (I2.env0.make C us []) bd r2 hq) fun r s' hq' => ?_))
  cases r with
  | error er => exact hx pins σ _ _ er s' I2 hq'
  | ok fl =>
    cases fl with
    | ret u =>
      obtain ⟨v, H2, os2, bare2, un2, hok2, rv, ev, q2⟩ := hq'
      subst ev
      obtain ⟨v', H3, I3, _, hv3, hQ⟩ := I2.after (Q := fun v H2 => v = .non ∧ Q (.ref (hp.objs.size + 1)) H2) ⟨.non, H2, os2, bare2, un2, hok2, rv, rfl, q2⟩
      obtain ⟨h2, g2, d2, t2, os'⟩ := s'
      exact ⟨rv, .ref (hp.objs.size + 1), H3, I3, rfl, hQ⟩
    | next => exact False.elim hq'
    | brk => exact False.elim hq'
    | cont => exact False.elim hq'
section
variable {G : Tb} {XR : XW} {W : WX} {X : Cx}
theorem not_hid {A : Hid} {H : Hp} {p : Addr} (t : TupOk A H) (n : H p = none) : ¬ A p := fun z => by
  obtain ⟨o, ho, _⟩ := t p z
  rw [n] at ho
  cases ho
/-- C(e, ..) with fields, as data -/
def cMkV (k n : Nat) (a : AF) : EF := fun env => bd (a env) fun ds e => if ds.length = n then some (.ok (.dat (.exv k ds.reverse)) e) else none
theorem ev_mkV {B newId initId : String} {bmB : List Value} {C fI : Addr} {x : Str} {k n j : Nat} {fd : FuncData} {ps ns : List Str} {p pos : Pos} {e : Expr} {es : List Expr} {a : AF} (Z : ExB B newId initId bmB) (T : AexC X.K C newId bmB) (iC : PySem.W.findIn X.K (.ref C) "__init__" = some (some (.ref fI))) (tI : PySem.W.typeIn X.K (.ref fI) = some (.type "function"))
    (F1 : FnOk X.prog X.w X.K X.mg X.base (L2.CX X.prog X.w) j fI fd ps (spI C ns)) (hr : Room (j + 1) X.A) (hb : Binds X.K fd ps []) (hg : Gl X x) (hm : X.mg x = some (.ref C)) (hcl : G.cls k = some (C, ns.reverse)) (hn : ns.length = n) (hn2 : n ≤ 900) (ha : PA X (e :: es) (tEvA G XR W a))
    (hdb : (x == ("__debug__" : Str)) = false := by decide) (he : starEach (e :: es) X.env = (false, eval e X.env) :: starEach es X.env := by rfl) (hpl : (backTo pos (starEach es X.env)).any (·.1) = false := by rfl) :
    PE X (.Call (.Name x p) (e :: es) [] pos) (tEv G XR W (cMkV k n a)) :=
  PE_imp (pe_mkx Z T iC tI F1 hr hb passF hg hm ha hdb he hpl) fun σ H Q ⟨A, env, R, q⟩ => by
    unfold cMkV at q
    refine (evA_seq R q).imp fun vs H1 ⟨A1, e1, ds, R1, rv, F1, q⟩ => ?_
    split at q
    · rename_i hl
      refine ⟨by rw [← rv.length, hl]; omega, fun b hb => ⟨b, vs, rfl, by rw [← rv.length, hl, hn], by rw [upd_same], fun d hd ne => ⟨rfl, ?_⟩⟩⟩
      rw [upd_ne ne] at hd
      have eH : upd (upd (upd H1 b (exo b C none)) d (exd d (ns.zip vs).reverse)) b (exo b C (some d)) = upd (upd H1 d (exd d (ns.zip vs).reverse)) b (exo b C (some d)) := by
        funext c
        by_cases h1 : c = b
        · subst h1
          rw [upd_same, upd_same]
        · rw [upd_ne h1, upd_ne h1]
          by_cases h2 : c = d
          · subst h2
            rw [upd_same, upd_same]
          · rw [upd_ne h2, upd_ne h2, upd_ne h1]
      rw [eH]
      have x1 := Ext.newTup (A := A1) R1.tup hd (exd d (ns.zip vs).reverse)
      have hb2 : upd H1 d (exd d (ns.zip vs).reverse) b = none := by rw [upd_ne (Ne.symm ne)]; exact hb
      have x2 := Ext.newTup (A := A1) x1.tup hb2 (exo b C (some d))
      have R3 := x2.rep (x1.rep R1)
      refine q A1 _ R3 ((x1.fr _).trans (x2.fr _)) (.ref b) ?_
      show RepD G A1 _ (.exv k ds.reverse) (.ref b)
      unfold RepD
      refine ⟨b, C, ns.reverse, vs.reverse, rfl, not_hid R1.tup hb, hcl, by rw [List.length_reverse, List.length_reverse, ← rv.length, hl, hn], (RepDs.mono x2.stab x1.tup _ _ (RepDs.mono x1.stab R1.tup _ _ rv)).reverse, .inr ⟨d, not_hid R1.tup hd, upd_same, ?_⟩⟩
      rw [upd_ne ne, upd_same, zip_rev (by rw [← rv.length, hl, hn])]
    · exact q.elim
/-- C(e), without fields, as data -/
def fMk0 (k : Nat) (_ : D) : Option RV := some (.dat (.exv k []))
theorem ev_mkV0 {B newId initId : String} {bmB : List Value} {C : Addr} {x : Str} {k : Nat} {p pos : Pos} {e : Expr} {f : EF} (F : ExcBaseFacts B newId initId bmB) (q : PySem.W.excIn X.K C bmB newId = true) (gC : X.mg x = some (.ref C)) (kC : PySem.W.keepIn X.K (.ref C) = true) (hg : Gl X x) (hcl : G.cls k = some (C, []))
    (he : PE X e (tEv G XR W f)) (hs : starEach [e] X.env = (false, eval e X.env) :: starEach [] X.env := by rfl) (hdb : (x == ("__debug__" : Str)) = false := by decide) : PE X (.Call (.Name x p) [e] [] pos) (tEv G XR W (cUn (fMk0 k) f)) :=
  PE_imp (pe_exc1 F q gC kC hg he hs hdb) fun σ H Q h => by
    refine use1 (r := fun x H Q => ∀ a, H a = none → Q (.ref a) (upd H a (ExO (.ref C) a))) (fun d rv A H x Q e t h q a ha => ?_) h
    unfold fMk0 at e
    cases e
    have x1 := Ext.newTup (A := A) t ha (ExO (.ref C) a)
    refine q _ _ _ x1 ?_
    show RepD G A _ (.exv k []) (.ref a)
    unfold RepD
    exact ⟨a, C, [], [], rfl, not_hid t ha, hcl, rfl, .nil, .inl ⟨rfl, upd_same⟩⟩
theorem RepT.exv {A : Hid} {H : Hp} {c : Nat} {l : List D} {x : V} (h : RepT G A H (.exv c l) x) : ∃ a C ns vs, x = .ref a ∧ G.cls c = some (C, ns) ∧ ns.length = vs.length ∧ RepDs G A H l vs ∧ ((ns = [] ∧ H a = some (ExO (.ref C) a)) ∨ ∃ d, H a = some (exo a C (some d)) ∧ H d = some (exd d (ns.zip vs))) := by
  rcases h with h | ⟨p, rfl, _, h⟩
  · unfold RepD at h
    obtain ⟨a, C, ns, vs, e, _, c, l, r, q⟩ := h
    refine ⟨a, C, ns, vs, e, c, l, r, ?_⟩
    rcases q with q | ⟨d, _, q⟩
    · exact .inl q
    · exact .inr ⟨d, q⟩
  · exact h.elim
/-- isinstance(e, C), e an exception as data -/
def rIsV (K : PySem.W.Frag) : List V → Hp → VK → Prop := fun xs H Q => ∃ (a : Addr) (c : V) (cv : Value) (E : Addr) (b : Bool), xs = [.ref a, c] ∧ ExcC K E ∧ (∀ u, RelV c u → u = cv) ∧ PySem.W.kitOne K (.ref E) cv = some b ∧
  (H a = some (ExO (.ref E) a) ∨ ∃ d fs, H a = some (exo a E (some d)) ∧ H d = some (exd d fs)) ∧ Q (.bl b) H
theorem inst_of {P : Program} {w : World} {H : Hp} {h : Heap} {a E : Addr} (hok : HOk P w H h) (q : H a = some (ExO (.ref E) a) ∨ ∃ d fs, H a = some (exo a E (some d)) ∧ H d = some (exd d fs)) : ∃ oe od, PySem.W.InstAt h a oe E od := by
  rcases q with q | ⟨d, fs, q, qd⟩
  · have x : ObjOk P w H h a (ExO (.ref E) a) := hok a _ q
    obtain ⟨⟨oe, vs, e, z, dt, _⟩, _⟩ := x
    refine ⟨oe, none, e, z.1, by unfold PySem.W.notCls; rw [dt], ?_⟩
    rw [z.2]
    trivial
  · obtain ⟨t1, e⟩ := exo_at hok q
    obtain ⟨mA, hns, _⟩ := exd_at hok qd
    obtain ⟨od, hod, _⟩ := lookIn_ns hns
    exact ⟨_, some od, e, rfl, rfl, hod⟩
theorem call_isV : CallR X (.builtin "isinstance") (rIsV X.K) := by
  intro pins s σ H xs us Q I r h
  obtain ⟨a, c, cv, E, b, rfl, ec, hcv, hk, hq, q⟩ := h
  obtain ⟨oe, od, J⟩ := inst_of I.hok hq
  have hcl : (PySem.W.clsIn X.K E).isSome = true := by
    obtain ⟨cd, hcd, _⟩ := PySem.W.any_some ec.hd
    rw [hcd]
    rfl
  have Z := PySem.W.kitx_exc (x := a) (ox := oe) (od := od) hcl ec.hg ec.hk ec.hs ec.ha ec.hn ec.ht ec.hm
  cases r with
  | cons rx r1 =>
    cases r1 with
    | cons rc r2 =>
      cases r2
      cases rx
      have ev := hcv _ rc
      subst ev
      exact PySem.W.kia_one Z I.kIn J hk (fun z => nomatch z) fun tk => ⟨.bl b, H, I.kept (t' := tk) fun _ _ z => z, rfl, q⟩
def fIsV (m : Nat → Option Bool) (d : D) : Option RV := match d with
  | .exv c _ => match m c with
    | some b => some (.dat (.bl b))
    | none => none
  | _ => none
theorem ev_isV {p pos : Pos} {e ce : Expr} {f : EF} {cv : V} {cu : Value} {m : Nat → Option Bool} (hk : X.K = G.K) (hX : ∀ k C ns b, m k = some b → G.cls k = some (C, ns) → ExcC G.K C) (hg : Gl X "isinstance") (hmi : X.mg "isinstance" = none) (hv : bootBuiltins "isinstance" = some (.builtin "isinstance"))
    (he : PE X e (tEv G XR W f)) (hce : PE X ce (tC cv)) (hcv : ∀ u, RelV cv u → u = cu) (hm : ∀ k C ns b, G.cls k = some (C, ns) → m k = some b → PySem.W.kitOne G.K (.ref C) cu = some b)
    (h1 : starEach [e, ce] X.env = (false, eval e X.env) :: starEach [ce] X.env := by rfl) (h2 : starEach [ce] X.env = (false, eval ce X.env) :: starEach [] X.env := by rfl) :
    PE X (.Call (.Name "isinstance" p) [e, ce] [] pos) (tEv G XR W (cUn (fIsV m) f)) :=
  PE_imp (pe_callB call_isV hg hmi hv (pa_cons he (pa_cons hce pa_nil h2) h1) (by decide) (by decide) h1 (by show (backTo pos (starEach [ce] X.env)).any (·.1) = false; rw [h2]; rfl)) fun σ H Q h => by
    refine use1 (r := fun x H Q => rIsV X.K [x, cv] H Q) (fun d rv A H x Q e t h q => ?_) h
    unfold fIsV at e
    split at e
    · rename_i c l
      split at e
      · rename_i b hb
        cases e
        obtain ⟨a, C, ns, vs, rfl, hc, _, _, hq⟩ := h.exv
        refine ⟨a, cv, cu, C, b, rfl, by rw [hk]; exact hX _ _ _ _ hb hc, hcv, by rw [hk]; exact hm _ _ _ _ hc hb, ?_, q _ A H (Ext.refl t) rvB⟩
        rcases hq with ⟨_, hq⟩ | ⟨d, h1, h2⟩
        · exact .inl hq
        · exact .inr ⟨d, _, h1, h2⟩
      · cases e
    · cases e
/-- e.f, e an exception as data -/
def tXv (K : PySem.W.Frag) (n : Str) (te : TE) : TE := fun σ H Q => te σ H fun x H1 => ∃ (a C d : Addr) (fs : List (Str × V)) (v : V), x = .ref a ∧ XfC K C ∧ PySem.W.findIn K (.ref C) n = some none ∧ H1 a = some (exo a C (some d)) ∧ H1 d = some (exd d fs) ∧ fs.lookup n = some v ∧ Q v H1
theorem pe_xv {e : Expr} {te : TE} {pos : Pos} {n : Str} (he : PE X e te) (hb : attributeBase e n X.env (eval e X.env) = eval e X.env := by rfl) : PE X (.Attribute e n pos) (tXv X.K n te) := by
  refine ⟨fun pins s σ H Q I h => ?_⟩
  refine attr_of hb (thn (he.run pins s σ H _ I h) fun u s1 hh => ?_)
  obtain ⟨x, H1, I1, rx, a, C, d, fs, v, ex, T, hno, ea, ed, l, q⟩ := hh
  subst ex
  obtain rfl : u = Value.ref a := rx
  obtain ⟨t1, ho⟩ := exo_at I1.hok ea
  obtain ⟨mA, hns, hr⟩ := exd_at I1.hok ed
  obtain ⟨od, hod, hl⟩ := lookIn_ns hns
  obtain ⟨u, hu, ru⟩ := RelO.some_of (v := v) (o := mA n) (by rw [← l]; exact hr n)
  have J : PySem.W.InstAt s1.heap a _ C (some od) := ⟨ho, rfl, rfl, hod⟩
  exact HandSPX.exc_get I1.kIn J T.ga T.gg T.exC (PySem.W.findObj_own T.hdC hno rfl (by rw [hl, hu])) (handed_of ru) ⟨v, H1, I1.tok _, ru, q⟩
def fXv (m : Nat → Option Nat) (d : D) : Option RV := match d with
  | .exv c l => match m c with
    | some j => match l[j]? with
      | some d => some (.dat d)
      | none => none
    | none => none
  | _ => none
theorem ev_xv {e : Expr} {pos : Pos} {f : Str} {fe : EF} {m : Nat → Option Nat} (hk : X.K = G.K) (hX : ∀ k j, m k = some j → ∃ C ns, G.cls k = some (C, ns) ∧ XfC G.K C ∧ PySem.W.findIn G.K (.ref C) f = some none ∧ ns.Nodup ∧ ns[j]? = some f) (he : PE X e (tEv G XR W fe))
    (hb : attributeBase e f X.env (eval e X.env) = eval e X.env := by rfl) : PE X (.Attribute e f pos) (tEv G XR W (cUn (fXv m) fe)) :=
  PE_imp (pe_xv he hb) fun σ H Q h => by
    refine use1 (r := fun x H Q => ∃ (a C d : Addr) (fs : List (Str × V)) (v : V), x = .ref a ∧ XfC X.K C ∧ PySem.W.findIn X.K (.ref C) f = some none ∧ H a = some (exo a C (some d)) ∧ H d = some (exd d fs) ∧ fs.lookup f = some v ∧ Q v H) (fun d rv A H x Q e t h q => ?_) h
    unfold fXv at e
    split at e
    · rename_i c l
      split at e
      · rename_i j hj
        split at e
        · rename_i d0 hd
          cases e
          obtain ⟨C, ns, hc, T, hno, nd, hn⟩ := hX _ _ hj
          obtain ⟨a, C2, ns2, vs, rfl, hc2, hl, r, hq⟩ := h.exv
          rw [hc] at hc2
          cases hc2
          obtain ⟨v, hv, rv⟩ := r.get hd
          rcases hq with ⟨e0, _⟩ | ⟨d, h1, h2⟩
          · rw [e0] at hn
            simp at hn
          · exact ⟨a, C, d, _, v, rfl, by rw [hk]; exact T, by rw [hk]; exact hno, h1, h2, zip_lookup nd hn hv, q _ A H (Ext.refl t) rv⟩
        · cases e
      · cases e
    · cases e
end
end Tk
namespace K18
open PySem PySem.Spec PyProof.Rows L2 Tk
/-! needs Tk41 -/
/-! needs Tk56 -/
/-! raised: 0 NoNumber, 1 NoPlace, 2 NoOrder, 3 NoPattern, 4 NoLetter, 5 NoTicket, 6 NoSize, 7 NoEnd, 8 NoDeed, 9 NoText, 10 NoRow, 11 NoForm, 12 Halted, 13 NoBack, 14 NoSuch, 15 NoStream, 16 Busy, 17 Taken, 18 Same, 19 Spent, 20 Twice, 21 TooMany -/
def mki_NoNumber : Nat → Option Bool
  | 0 => some true
  | 1 => some false
  | 2 => some false
  | 3 => some false
  | 4 => some false
  | 5 => some false
  | 6 => some false
  | 7 => some false
  | 8 => some false
  | 9 => some false
  | 10 => some false
  | 11 => some false
  | 12 => some false
  | 13 => some false
  | 14 => some false
  | 15 => some false
  | 16 => some false
  | 17 => some false
  | 18 => some false
  | 19 => some false
  | 20 => some false
  | 21 => some false
  | _ => none
def mki_NoPlace : Nat → Option Bool
  | 0 => some false
  | 1 => some true
  | 2 => some false
  | 3 => some false
  | 4 => some false
  | 5 => some false
  | 6 => some false
  | 7 => some false
  | 8 => some false
  | 9 => some false
  | 10 => some false
  | 11 => some false
  | 12 => some false
  | 13 => some false
  | 14 => some false
  | 15 => some false
  | 16 => some false
  | 17 => some false
  | 18 => some false
  | 19 => some false
  | 20 => some false
  | 21 => some false
  | _ => none
def mki_NoOrder : Nat → Option Bool
  | 0 => some false
  | 1 => some false
  | 2 => some true
  | 3 => some false
  | 4 => some false
  | 5 => some false
  | 6 => some false
  | 7 => some false
  | 8 => some false
  | 9 => some false
  | 10 => some false
  | 11 => some false
  | 12 => some false
  | 13 => some false
  | 14 => some false
  | 15 => some false
  | 16 => some false
  | 17 => some false
  | 18 => some false
  | 19 => some false
  | 20 => some false
  | 21 => some false
  | _ => none
def mki_NoPattern : Nat → Option Bool
  | 0 => some false
  | 1 => some false
  | 2 => some false
  | 3 => some true
  | 4 => some false
  | 5 => some false
  | 6 => some false
  | 7 => some false
  | 8 => some false
  | 9 => some false
  | 10 => some false
  | 11 => some false
  | 12 => some false
  | 13 => some false
  | 14 => some false
  | 15 => some false
  | 16 => some false
  | 17 => some false
  | 18 => some false
  | 19 => some false
  | 20 => some false
  | 21 => some false
  | _ => none
def mki_NoLetter : Nat → Option Bool
  | 0 => some false
  | 1 => some false
  | 2 => some false
  | 3 => some false
  | 4 => some true
  | 5 => some false
  | 6 => some false
  | 7 => some false
  | 8 => some false
  | 9 => some false
  | 10 => some false
  | 11 => some false
  | 12 => some false
  | 13 => some false
  | 14 => some false
  | 15 => some false
  | 16 => some false
  | 17 => some false
  | 18 => some false
  | 19 => some false
  | 20 => some false
  | 21 => some false
  | _ => none
def mki_NoTicket : Nat → Option Bool
  | 0 => some false
  | 1 => some false
  | 2 => some false
  | 3 => some false
  | 4 => some false
  | 5 => some true
  | 6 => some false
  | 7 => some false
  | 8 => some false
  | 9 => some false
  | 10 => some false
  | 11 => some false
  | 12 => some false
  | 13 => some false
  | 14 => some false
  | 15 => some false
  | 16 => some false
  | 17 => some false
  | 18 => some false
  | 19 => some false
  | 20 => some false
  | 21 => some false
  | _ => none
def mki_NoSize : Nat → Option Bool
  | 0 => some false
  | 1 => some false
  | 2 => some false
  | 3 => some false
  | 4 => some false
  | 5 => some false
  | 6 => some true
  | 7 => some false
  | 8 => some false
  | 9 => some false
  | 10 => some false
  | 11 => some false
  | 12 => some false
  | 13 => some false
  | 14 => some false
  | 15 => some false
  | 16 => some false
  | 17 => some false
  | 18 => some false
  | 19 => some false
  | 20 => some false
  | 21 => some false
  | _ => none
def mki_NoEnd : Nat → Option Bool
  | 0 => some false
  | 1 => some false
  | 2 => some false
  | 3 => some false
  | 4 => some false
  | 5 => some false
  | 6 => some false
  | 7 => some true
  | 8 => some false
  | 9 => some false
  | 10 => some false
  | 11 => some false
  | 12 => some false
  | 13 => some false
  | 14 => some false
  | 15 => some false
  | 16 => some false
  | 17 => some false
  | 18 => some false
  | 19 => some false
  | 20 => some false
  | 21 => some false
  | _ => none
def mki_NoDeed : Nat → Option Bool
  | 0 => some false
  | 1 => some false
  | 2 => some false
  | 3 => some false
  | 4 => some false
  | 5 => some false
  | 6 => some false
  | 7 => some false
  | 8 => some true
  | 9 => some false
  | 10 => some false
  | 11 => some false
  | 12 => some false
  | 13 => some false
  | 14 => some false
  | 15 => some false
  | 16 => some false
  | 17 => some false
  | 18 => some false
  | 19 => some false
  | 20 => some false
  | 21 => some false
  | _ => none
def mki_NoText : Nat → Option Bool
  | 0 => some false
  | 1 => some false
  | 2 => some false
  | 3 => some false
  | 4 => some false
  | 5 => some false
  | 6 => some false
  | 7 => some false
  | 8 => some false
  | 9 => some true
  | 10 => some false
  | 11 => some false
  | 12 => some false
  | 13 => some false
  | 14 => some false
  | 15 => some false
  | 16 => some false
  | 17 => some false
  | 18 => some false
  | 19 => some false
  | 20 => some false
  | 21 => some false
  | _ => none
def mki_NoRow : Nat → Option Bool
  | 0 => some false
  | 1 => some false
  | 2 => some false
  | 3 => some false
  | 4 => some false
  | 5 => some false
  | 6 => some false
  | 7 => some false
  | 8 => some false
  | 9 => some false
  | 10 => some true
  | 11 => some false
  | 12 => some false
  | 13 => some false
  | 14 => some false
  | 15 => some false
  | 16 => some false
  | 17 => some false
  | 18 => some false
  | 19 => some false
  | 20 => some false
  | 21 => some false
  | _ => none
def mki_NoForm : Nat → Option Bool
  | 0 => some false
  | 1 => some false
  | 2 => some false
  | 3 => some false
  | 4 => some false
  | 5 => some false
  | 6 => some false
  | 7 => some false
  | 8 => some false
  | 9 => some false
  | 10 => some false
  | 11 => some true
  | 12 => some false
  | 13 => some false
  | 14 => some false
  | 15 => some false
  | 16 => some false
  | 17 => some false
  | 18 => some false
  | 19 => some false
  | 20 => some false
  | 21 => some false
  | _ => none
def mki_Halted : Nat → Option Bool
  | 0 => some false
  | 1 => some false
  | 2 => some false
  | 3 => some false
  | 4 => some false
  | 5 => some false
  | 6 => some false
  | 7 => some false
  | 8 => some false
  | 9 => some false
  | 10 => some false
  | 11 => some false
  | 12 => some true
  | 13 => some false
  | 14 => some false
  | 15 => some false
  | 16 => some false
  | 17 => some false
  | 18 => some false
  | 19 => some false
  | 20 => some false
  | 21 => some false
  | _ => none
def mki_NoBack : Nat → Option Bool
  | 0 => some false
  | 1 => some false
  | 2 => some false
  | 3 => some false
  | 4 => some false
  | 5 => some false
  | 6 => some false
  | 7 => some false
  | 8 => some false
  | 9 => some false
  | 10 => some false
  | 11 => some false
  | 12 => some false
  | 13 => some true
  | 14 => some false
  | 15 => some false
  | 16 => some false
  | 17 => some false
  | 18 => some false
  | 19 => some false
  | 20 => some false
  | 21 => some false
  | _ => none
def mki_NoSuch : Nat → Option Bool
  | 0 => some false
  | 1 => some false
  | 2 => some false
  | 3 => some false
  | 4 => some false
  | 5 => some false
  | 6 => some false
  | 7 => some false
  | 8 => some false
  | 9 => some false
  | 10 => some false
  | 11 => some false
  | 12 => some false
  | 13 => some false
  | 14 => some true
  | 15 => some false
  | 16 => some false
  | 17 => some false
  | 18 => some false
  | 19 => some false
  | 20 => some false
  | 21 => some false
  | _ => none
def mki_NoStream : Nat → Option Bool
  | 0 => some false
  | 1 => some false
  | 2 => some false
  | 3 => some false
  | 4 => some false
  | 5 => some false
  | 6 => some false
  | 7 => some false
  | 8 => some false
  | 9 => some false
  | 10 => some false
  | 11 => some false
  | 12 => some false
  | 13 => some false
  | 14 => some false
  | 15 => some true
  | 16 => some false
  | 17 => some false
  | 18 => some false
  | 19 => some false
  | 20 => some false
  | 21 => some false
  | _ => none
def mki_Busy : Nat → Option Bool
  | 0 => some false
  | 1 => some false
  | 2 => some false
  | 3 => some false
  | 4 => some false
  | 5 => some false
  | 6 => some false
  | 7 => some false
  | 8 => some false
  | 9 => some false
  | 10 => some false
  | 11 => some false
  | 12 => some false
  | 13 => some false
  | 14 => some false
  | 15 => some false
  | 16 => some true
  | 17 => some false
  | 18 => some false
  | 19 => some false
  | 20 => some false
  | 21 => some false
  | _ => none
def mki_Taken : Nat → Option Bool
  | 0 => some false
  | 1 => some false
  | 2 => some false
  | 3 => some false
  | 4 => some false
  | 5 => some false
  | 6 => some false
  | 7 => some false
  | 8 => some false
  | 9 => some false
  | 10 => some false
  | 11 => some false
  | 12 => some false
  | 13 => some false
  | 14 => some false
  | 15 => some false
  | 16 => some false
  | 17 => some true
  | 18 => some false
  | 19 => some false
  | 20 => some false
  | 21 => some false
  | _ => none
def mki_Same : Nat → Option Bool
  | 0 => some false
  | 1 => some false
  | 2 => some false
  | 3 => some false
  | 4 => some false
  | 5 => some false
  | 6 => some false
  | 7 => some false
  | 8 => some false
  | 9 => some false
  | 10 => some false
  | 11 => some false
  | 12 => some false
  | 13 => some false
  | 14 => some false
  | 15 => some false
  | 16 => some false
  | 17 => some false
  | 18 => some true
  | 19 => some false
  | 20 => some false
  | 21 => some false
  | _ => none
def mki_Spent : Nat → Option Bool
  | 0 => some false
  | 1 => some false
  | 2 => some false
  | 3 => some false
  | 4 => some false
  | 5 => some false
  | 6 => some false
  | 7 => some false
  | 8 => some false
  | 9 => some false
  | 10 => some false
  | 11 => some false
  | 12 => some false
  | 13 => some false
  | 14 => some false
  | 15 => some false
  | 16 => some false
  | 17 => some false
  | 18 => some false
  | 19 => some true
  | 20 => some false
  | 21 => some false
  | _ => none
def mki_Twice : Nat → Option Bool
  | 0 => some false
  | 1 => some false
  | 2 => some false
  | 3 => some false
  | 4 => some false
  | 5 => some false
  | 6 => some false
  | 7 => some false
  | 8 => some false
  | 9 => some false
  | 10 => some false
  | 11 => some false
  | 12 => some false
  | 13 => some false
  | 14 => some false
  | 15 => some false
  | 16 => some false
  | 17 => some false
  | 18 => some false
  | 19 => some false
  | 20 => some true
  | 21 => some false
  | _ => none
def mki_TooMany : Nat → Option Bool
  | 0 => some false
  | 1 => some false
  | 2 => some false
  | 3 => some false
  | 4 => some false
  | 5 => some false
  | 6 => some false
  | 7 => some false
  | 8 => some false
  | 9 => some false
  | 10 => some false
  | 11 => some false
  | 12 => some false
  | 13 => some false
  | 14 => some false
  | 15 => some false
  | 16 => some false
  | 17 => some false
  | 18 => some false
  | 19 => some false
  | 20 => some false
  | 21 => some true
  | _ => none
def mki_RowsError : Nat → Option Bool
  | 0 => some true
  | 1 => some true
  | 2 => some true
  | 3 => some true
  | 4 => some true
  | 5 => some true
  | 6 => some true
  | 7 => some true
  | 8 => some true
  | 9 => some true
  | 10 => some true
  | 11 => some true
  | 12 => some true
  | 13 => some false
  | 14 => some false
  | 15 => some false
  | 16 => some false
  | 17 => some false
  | 18 => some false
  | 19 => some false
  | 20 => some false
  | 21 => some false
  | _ => none
def mki_Absent : Nat → Option Bool
  | 0 => some false
  | 1 => some false
  | 2 => some false
  | 3 => some false
  | 4 => some false
  | 5 => some false
  | 6 => some false
  | 7 => some false
  | 8 => some false
  | 9 => some false
  | 10 => some false
  | 11 => some false
  | 12 => some false
  | 13 => some true
  | 14 => some true
  | 15 => some true
  | 16 => some false
  | 17 => some false
  | 18 => some false
  | 19 => some false
  | 20 => some false
  | 21 => some false
  | _ => none
def mki_Barred : Nat → Option Bool
  | 0 => some false
  | 1 => some false
  | 2 => some false
  | 3 => some false
  | 4 => some false
  | 5 => some false
  | 6 => some false
  | 7 => some false
  | 8 => some false
  | 9 => some false
  | 10 => some false
  | 11 => some false
  | 12 => some false
  | 13 => some false
  | 14 => some false
  | 15 => some false
  | 16 => some true
  | 17 => some true
  | 18 => some true
  | 19 => some true
  | 20 => some true
  | 21 => some false
  | _ => none
def mki_ValueError : Nat → Option Bool
  | 0 => some true
  | 1 => some true
  | 2 => some true
  | 3 => some true
  | 4 => some true
  | 5 => some true
  | 6 => some true
  | 7 => some true
  | 8 => some true
  | 9 => some true
  | 10 => some true
  | 11 => some true
  | 12 => some true
  | 13 => some false
  | 14 => some false
  | 15 => some false
  | 16 => some false
  | 17 => some false
  | 18 => some false
  | 19 => some false
  | 20 => some false
  | 21 => some false
  | _ => none
def mki_LookupError : Nat → Option Bool
  | 0 => some false
  | 1 => some false
  | 2 => some false
  | 3 => some false
  | 4 => some false
  | 5 => some false
  | 6 => some false
  | 7 => some false
  | 8 => some false
  | 9 => some false
  | 10 => some false
  | 11 => some false
  | 12 => some false
  | 13 => some true
  | 14 => some true
  | 15 => some true
  | 16 => some false
  | 17 => some false
  | 18 => some false
  | 19 => some false
  | 20 => some false
  | 21 => some false
  | _ => none
def mki_RuntimeError : Nat → Option Bool
  | 0 => some false
  | 1 => some false
  | 2 => some false
  | 3 => some false
  | 4 => some false
  | 5 => some false
  | 6 => some false
  | 7 => some false
  | 8 => some false
  | 9 => some false
  | 10 => some false
  | 11 => some false
  | 12 => some false
  | 13 => some false
  | 14 => some false
  | 15 => some false
  | 16 => some true
  | 17 => some true
  | 18 => some true
  | 19 => some true
  | 20 => some true
  | 21 => some false
  | _ => none
def mki_ArithmeticError : Nat → Option Bool
  | 0 => some false
  | 1 => some false
  | 2 => some false
  | 3 => some false
  | 4 => some false
  | 5 => some false
  | 6 => some false
  | 7 => some false
  | 8 => some false
  | 9 => some false
  | 10 => some false
  | 11 => some false
  | 12 => some false
  | 13 => some false
  | 14 => some false
  | 15 => some false
  | 16 => some false
  | 17 => some false
  | 18 => some false
  | 19 => some false
  | 20 => some false
  | 21 => some true
  | _ => none
def mf_what : Nat → Option Nat
  | 11 => some 0
  | _ => none
def mf_number : Nat → Option Nat
  | 12 => some 1
  | _ => none
def mf_answers : Nat → Option Nat
  | 12 => some 0
  | _ => none
def mf_name : Nat → Option Nat
  | 14 => some 0
  | 17 => some 0
  | 18 => some 0
  | _ => none
def mf_letter : Nat → Option Nat
  | 15 => some 0
  | 19 => some 0
  | _ => none
def mf_ticket : Nat → Option Nat
  | 20 => some 0
  | _ => none
def mf_tickets : Nat → Option Nat
  | 21 => some 1
  | _ => none
def mf_lines : Nat → Option Nat
  | 21 => some 0
  | _ => none
/-- L_pot: 0 L_script, 1 L_k, 2 L_cell -/
def g_L_pot : SF :=
  (sSeq (sSet [] 2 (cC (.int 0))) (sSeq (sIf (cTest (cBin fLt (cName 1) (cUn fLen (cName 0)))) (sSet [] 2 (cBin fIx (cName 0) (cName 1))) sNil) (sRet (cLst (aCons (cBin fMax (cC (.int 0)) (cBin fSub (cUn fAbs (cName 2)) (cBin fPow (cC (.int 10)) (cC (.int 18))))) (aCons (cBin fMod (cBin fAdd (cBin fAdd (cBin fMul (cBin fMod (cUn fAbs (cName 2)) (cC (.int 2147483629))) (cC (.int 48271))) (cBin fMul (cC (.int 60013)) (cName 1))) (cC (.int 29))) (cC (.int 2147483647))) aNil))))))
def P_L_pot (ds : List D) : Option RR := runP g_L_pot 3 ds
/-- L_digit: 0 L_pot_here, 1 L_many, 2 L_digit_here -/
def g_L_digit : SF :=
  (sSeq (sIf (cTest (cBin fGt (cBin fIx (cName 0) (cC (.int 0))) (cC (.int 0)))) (sSeq (sAsg (cBin fDivmod (cBin fIx (cName 0) (cC (.int 0))) (cName 1)) (gTp 2 (gsCons (gIx 0 (cC (.int 0))) (gsCons (gNm [0] 2) gsNil)))) (sRet (cName 2))) sNil) (sSeq (sAsg (cBin fMod (cBin fAdd (cBin fMul (cBin fIx (cName 0) (cC (.int 1))) (cC (.int 39373))) (cC (.int 12227))) (cC (.int 2147483629))) (gIx 0 (cC (.int 1)))) (sRet (cBin fMod (cBin fDiv (cBin fMod (cBin fMul (cBin fIx (cName 0) (cC (.int 1))) (cBin fIx (cName 0) (cC (.int 1)))) (cC (.int 2147483563))) (cC (.int 13))) (cName 1)))))
def P_L_digit (d : D) (ds : List D) : Option RM := runM g_L_digit 3 d ds
/-- L_kinds: 0 L_e, 1 L_some -/
def g_L_kinds : SF :=
  (sSeq (sSet [] 1 (cLst (aCons (cUn (fIsV mki_NoNumber) (cName 0)) (aCons (cUn (fIsV mki_NoPlace) (cName 0)) (aCons (cUn (fIsV mki_NoOrder) (cName 0)) (aCons (cUn (fIsV mki_NoPattern) (cName 0)) aNil)))))) (sSeq (sSet [] 1 (cBin fAdd (cName 1) (cLst (aCons (cUn (fIsV mki_NoLetter) (cName 0)) (aCons (cUn (fIsV mki_NoTicket) (cName 0)) (aCons (cUn (fIsV mki_NoSize) (cName 0)) (aCons (cUn (fIsV mki_NoEnd) (cName 0)) aNil))))))) (sSeq (sSet [] 1 (cBin fAdd (cName 1) (cLst (aCons (cUn (fIsV mki_NoDeed) (cName 0)) (aCons (cUn (fIsV mki_NoText) (cName 0)) (aCons (cUn (fIsV mki_NoRow) (cName 0)) (aCons (cUn (fIsV mki_NoForm) (cName 0)) aNil))))))) (sSeq (sSet [] 1 (cBin fAdd (cName 1) (cLst (aCons (cUn (fIsV mki_Halted) (cName 0)) (aCons (cUn (fIsV mki_NoBack) (cName 0)) (aCons (cUn (fIsV mki_NoSuch) (cName 0)) (aCons (cUn (fIsV mki_NoStream) (cName 0)) aNil))))))) (sSeq (sSet [] 1 (cBin fAdd (cName 1) (cLst (aCons (cUn (fIsV mki_Busy) (cName 0)) (aCons (cUn (fIsV mki_Taken) (cName 0)) (aCons (cUn (fIsV mki_Same) (cName 0)) (aCons (cUn (fIsV mki_Spent) (cName 0)) aNil))))))) (sRet (cBin fAdd (cName 1) (cLst (aCons (cUn (fIsV mki_Twice) (cName 0)) (aCons (cUn (fIsV mki_TooMany) (cName 0)) aNil))))))))))
def P_L_kinds (ds : List D) : Option RR := runP g_L_kinds 2 ds
/-- L_bases: 0 L_e, 1 L_own -/
def g_L_bases : SF :=
  (sSeq (sSet [] 1 (cLst (aCons (cUn (fIsV mki_RowsError) (cName 0)) (aCons (cUn (fIsV mki_Absent) (cName 0)) (aCons (cUn (fIsV mki_Barred) (cName 0)) aNil))))) (sSeq (sSet [] 1 (cBin fAdd (cName 1) (cLst (aCons (cUn (fIsV mki_ValueError) (cName 0)) (aCons (cUn (fIsV mki_LookupError) (cName 0)) aNil))))) (sRet (cBin fAdd (cName 1) (cLst (aCons (cUn (fIsV mki_RuntimeError) (cName 0)) (aCons (cUn (fIsV mki_ArithmeticError) (cName 0)) aNil)))))))
def P_L_bases (ds : List D) : Option RR := runP g_L_bases 2 ds
/-- L_are_right: 0 L_made, 1 L_k, 2 L_e, 3 L_which, 4 L_due, 5 L_j -/
def ct_L_are_right_1 : GF :=
  (gNm [0, 1, 2, 3, 4] 5)
def cc_L_are_right_1 : TF :=
  tYesF
def ce_L_are_right_1 : UF :=
  (cUse (cBin (eqF false) (cName 5) (cName 1)))
def ft_L_are_right_1 : GF :=
  (gTp 2 (gsCons (gNm [] 1) (gsCons (gNm [] 2) gsNil)))
def fb_L_are_right_1 : SF :=
  (sSeq (sIf (cTest (cBin (eqF true) (cCall 1 P_L_kinds (aCons (cName 2) aNil)) (cLc (iRg1 (aCons (cC (.int 22)) aNil)) [5] ct_L_are_right_1 cc_L_are_right_1 ce_L_are_right_1))) (sRet (cC (.bl false))) sNil) (sSeq (sSet [] 3 (cBin fAdd (cBin fAdd (cUn fInt (cBin fGt (cName 1) (cC (.int 12)))) (cUn fInt (cBin fGt (cName 1) (cC (.int 15))))) (cUn fInt (cBin fGt (cName 1) (cC (.int 20)))))) (sSeq (sSet [] 4 (cLst (aCons (cBin (eqF false) (cName 3) (cC (.int 0))) (aCons (cBin (eqF false) (cName 3) (cC (.int 1))) (aCons (cBin (eqF false) (cName 3) (cC (.int 2))) aNil))))) (sIf (cTest (cBin (eqF true) (cCall 1 P_L_bases (aCons (cName 2) aNil)) (cBin fAdd (cBin fAdd (cName 4) (cName 4)) (cLst (aCons (cBin (eqF false) (cName 3) (cC (.int 3))) aNil))))) (sRet (cC (.bl false))) sNil))))
def g_L_are_right : SF :=
  (sSeq (sFor (iEn (aCons (cName 0) aNil)) ft_L_are_right_1 fb_L_are_right_1) (sRet (cC (.bl true))))
def P_L_are_right (ds : List D) : Option RR := runP g_L_are_right 6 ds
/-- law: 0 L_script, 1 L_pot_here, 2 L_words, 3 L_number, 4 L_ticket, 5 L_some, 6 L_made, 7 L_form, 8 L_halted, 9 L_such, 10 L_stream, 11 L_taken, 12 L_same, 13 L_spent, 14 L_twice, 15 L_many, 16 L_k -/
def ct_law_1 : GF :=
  (gNm [0, 1, 2, 3, 4, 5, 6, 7, 8, 9, 10, 11, 12, 13, 14, 15] 16)
def cc_law_1 : TF :=
  tYesF
def ce_law_1 : UF :=
  (cUse (cBin fIx (cC (.str "abcdefghijklmnopqrstuvwxyz ")) (cCallM 2 P_L_digit 1 (aCons (cC (.int 27)) aNil))))
def g_law : SF :=
  (sSeq (sSet [] 1 (cCall 2 P_L_pot (aCons (cName 0) (aCons (cC (.int 0)) aNil)))) (sSeq (sSet [] 2 (cUn (fJoinC "") (cLc (iRg1 (aCons (cCallM 2 P_L_digit 1 (aCons (cC (.int 9)) aNil)) aNil)) [16] ct_law_1 cc_law_1 ce_law_1))) (sSeq (sPar [] 3 4 (cCallM 2 P_L_digit 1 (aCons (cC (.int 1000)) aNil)) (cTup (aCons (cC (.str "q")) (aCons (cCallM 2 P_L_digit 1 (aCons (cBin fPow (cC (.int 10)) (cC (.int 12))) aNil)) aNil)))) (sSeq (sSet [] 5 (cLst (aCons (cName 2) (aCons (cName 4) (aCons (cName 3) aNil))))) (sSeq (sSet [] 6 (cLst (aCons (cUn (fMk0 0) (cName 2)) (aCons (cUn (fMk0 1) (cName 2)) (aCons (cUn (fMk0 2) (cName 2)) (aCons (cUn (fMk0 3) (cName 2)) (aCons (cUn (fMk0 4) (cName 2)) (aCons (cUn (fMk0 5) (cName 2)) aNil)))))))) (sSeq (sSet [] 6 (cBin fAdd (cName 6) (cLst (aCons (cUn (fMk0 6) (cName 2)) (aCons (cUn (fMk0 7) (cName 2)) (aCons (cUn (fMk0 8) (cName 2)) (aCons (cUn (fMk0 9) (cName 2)) (aCons (cUn (fMk0 10) (cName 2)) aNil)))))))) (sSeq (sAsg (cTup (aCons (cMkV 11 1 (aCons (cName 2) aNil)) (aCons (cMkV 12 2 (aCons (cName 3) (aCons (cName 5) aNil))) (aCons (cMkV 14 1 (aCons (cName 5) aNil)) (aCons (cMkV 15 1 (aCons (cName 2) aNil)) aNil))))) (gTp 4 (gsCons (gNm [] 7) (gsCons (gNm [] 8) (gsCons (gNm [] 9) (gsCons (gNm [] 10) gsNil)))))) (sSeq (sPar3 [] 11 12 13 (cMkV 17 1 (aCons (cName 2) aNil)) (cMkV 18 1 (aCons (cName 2) aNil)) (cMkV 19 1 (aCons (cName 2) aNil))) (sSeq (sPar [] 14 15 (cMkV 20 1 (aCons (cName 4) aNil)) (cMkV 21 2 (aCons (cName 3) (aCons (cBin fAdd (cName 3) (cC (.int 1))) aNil)))) (sSeq (sSet [] 6 (cBin fAdd (cName 6) (cLst (aCons (cName 7) (aCons (cName 8) (aCons (cUn (fMk0 13) (cName 2)) (aCons (cName 9) (aCons (cName 10) (aCons (cUn (fMk0 16) (cName 2)) (aCons (cName 11) (aCons (cName 12) (aCons (cName 13) (aCons (cName 14) (aCons (cName 15) aNil)))))))))))))) (sSeq (sIf (tNotF (cTest (cCall 1 P_L_are_right (aCons (cName 6) aNil)))) (sRet (cC (.bl false))) sNil) (sSeq (sIf (tOrF (cTest (cBin (eqF true) (cUn (fXv mf_what) (cName 7)) (cName 2))) (cTest (cBin (eqF true) (cLst (aCons (cUn (fXv mf_number) (cName 8)) (aCons (cUn (fXv mf_answers) (cName 8)) (aCons (cUn (fXv mf_name) (cName 9)) aNil)))) (cLst (aCons (cName 3) (aCons (cName 5) (aCons (cName 5) aNil))))))) (sRet (cC (.bl false))) sNil) (sSeq (sIf (tOrF (cTest (cBin (eqF true) (cLst (aCons (cUn (fXv mf_letter) (cName 10)) (aCons (cUn (fXv mf_name) (cName 11)) (aCons (cUn (fXv mf_name) (cName 12)) aNil)))) (cBin fMulS (cLst (aCons (cName 2) aNil)) (cC (.int 3))))) (cTest (cBin (eqF true) (cUn (fXv mf_letter) (cName 13)) (cName 2)))) (sRet (cC (.bl false))) sNil) (sRet (cBin (eqF false) (cLst (aCons (cUn (fXv mf_ticket) (cName 14)) (aCons (cUn (fXv mf_tickets) (cName 15)) (aCons (cUn (fXv mf_lines) (cName 15)) aNil)))) (cLst (aCons (cName 4) (aCons (cName 3) (aCons (cBin fAdd (cName 3) (cC (.int 1))) aNil)))))))))))))))))))
def P_law (ds : List D) : Option RR := runP g_law 17 ds
end K18
namespace K18
open PySem PySem.Spec PyProof.Rows L2 Tk
def topS (i : Nat) : Stmt := PySem.Challenge.pw_ticketrows_k18_refusals_told_apart.main.body.getD i (.Pass ⟨0, 0, 0, 0⟩)
/-- where the classes lie -/
structure Cl where
  none_ : Nat
  NoNumber : Addr
  NoPlace : Addr
  NoOrder : Addr
  NoPattern : Addr
  NoLetter : Addr
  NoTicket : Addr
  NoSize : Addr
  NoEnd : Addr
  NoDeed : Addr
  NoText : Addr
  NoRow : Addr
  NoForm : Addr
  Halted : Addr
  NoBack : Addr
  NoSuch : Addr
  NoStream : Addr
  Busy : Addr
  Taken : Addr
  Same : Addr
  Spent : Addr
  Twice : Addr
  TooMany : Addr
  RowsError : Addr
  Absent : Addr
  Barred : Addr
def clsT (cc : Cl) : Nat → Option (Addr × List Str)
  | 0 => some (cc.NoNumber, [])
  | 1 => some (cc.NoPlace, [])
  | 2 => some (cc.NoOrder, [])
  | 3 => some (cc.NoPattern, [])
  | 4 => some (cc.NoLetter, [])
  | 5 => some (cc.NoTicket, [])
  | 6 => some (cc.NoSize, [])
  | 7 => some (cc.NoEnd, [])
  | 8 => some (cc.NoDeed, [])
  | 9 => some (cc.NoText, [])
  | 10 => some (cc.NoRow, [])
  | 11 => some (cc.NoForm, ["what"])
  | 12 => some (cc.Halted, ["answers", "number"])
  | 13 => some (cc.NoBack, [])
  | 14 => some (cc.NoSuch, ["name"])
  | 15 => some (cc.NoStream, ["letter"])
  | 16 => some (cc.Busy, [])
  | 17 => some (cc.Taken, ["name"])
  | 18 => some (cc.Same, ["name"])
  | 19 => some (cc.Spent, ["letter"])
  | 20 => some (cc.Twice, ["ticket"])
  | 21 => some (cc.TooMany, ["lines", "tickets"])
  | _ => none
def fnT (cc : Cl) : Nat → Option Addr
  | _ => none
abbrev GG (K : PySem.W.Frag) (cc : Cl) : Tb := ⟨K, clsT cc, fnT cc, none⟩
abbrev XR0 : XW := XRx
structure Cn (mg : Str → Option Value) : Prop where
  none_ : True
structure Ce (K : PySem.W.Frag) (mg : Str → Option Value) (cc : Cl) : Prop where
  none_ : True
  g_NoNumber : mg "NoNumber" = some (.ref cc.NoNumber)
  g_NoPlace : mg "NoPlace" = some (.ref cc.NoPlace)
  g_NoOrder : mg "NoOrder" = some (.ref cc.NoOrder)
  g_NoPattern : mg "NoPattern" = some (.ref cc.NoPattern)
  g_NoLetter : mg "NoLetter" = some (.ref cc.NoLetter)
  g_NoTicket : mg "NoTicket" = some (.ref cc.NoTicket)
  g_NoSize : mg "NoSize" = some (.ref cc.NoSize)
  g_NoEnd : mg "NoEnd" = some (.ref cc.NoEnd)
  g_NoDeed : mg "NoDeed" = some (.ref cc.NoDeed)
  g_NoText : mg "NoText" = some (.ref cc.NoText)
  g_NoRow : mg "NoRow" = some (.ref cc.NoRow)
  g_NoForm : mg "NoForm" = some (.ref cc.NoForm)
  g_Halted : mg "Halted" = some (.ref cc.Halted)
  g_NoBack : mg "NoBack" = some (.ref cc.NoBack)
  g_NoSuch : mg "NoSuch" = some (.ref cc.NoSuch)
  g_NoStream : mg "NoStream" = some (.ref cc.NoStream)
  g_Busy : mg "Busy" = some (.ref cc.Busy)
  g_Taken : mg "Taken" = some (.ref cc.Taken)
  g_Same : mg "Same" = some (.ref cc.Same)
  g_Spent : mg "Spent" = some (.ref cc.Spent)
  g_Twice : mg "Twice" = some (.ref cc.Twice)
  g_TooMany : mg "TooMany" = some (.ref cc.TooMany)
  g_RowsError : mg "RowsError" = some (.ref cc.RowsError)
  g_Absent : mg "Absent" = some (.ref cc.Absent)
  g_Barred : mg "Barred" = some (.ref cc.Barred)
  k_NoNumber : PySem.W.keepIn K (.ref cc.NoNumber) = true
  x_NoNumber : PySem.W.excIn K cc.NoNumber [.type "ValueError", .type "Exception", .type "BaseException", .type "object"] "ValueError.__new__" = true
  b_NoNumber : PySem.W.subIn K (.ref cc.NoNumber) (.type "BaseException") = some true
  t_NoNumber : PySem.W.typeIn K (.ref cc.NoNumber) = some (.type "type")
  eg_NoNumber : PySem.W.findIn K (.ref cc.NoNumber) "__getattribute__" = some (some (.builtin "BaseException.__getattribute__"))
  ek_NoNumber : PySem.W.findIn K (.ref cc.NoNumber) "__getattr__" = some none
  ed_NoNumber : PySem.W.hasDictIn K cc.NoNumber = true
  ea_NoNumber : PySem.W.findIn K (.ref cc.NoNumber) "__class__" = some (some (.builtin "object.__class__"))
  em_NoNumber : PySem.W.mroIn K cc.NoNumber (.type "object") = some true
  ki_NoNumber_NoNumber : PySem.W.kitOne K (.ref cc.NoNumber) (.ref cc.NoNumber) = some true
  ki_NoNumber_NoPlace : PySem.W.kitOne K (.ref cc.NoNumber) (.ref cc.NoPlace) = some false
  ki_NoNumber_NoOrder : PySem.W.kitOne K (.ref cc.NoNumber) (.ref cc.NoOrder) = some false
  ki_NoNumber_NoPattern : PySem.W.kitOne K (.ref cc.NoNumber) (.ref cc.NoPattern) = some false
  ki_NoNumber_NoLetter : PySem.W.kitOne K (.ref cc.NoNumber) (.ref cc.NoLetter) = some false
  ki_NoNumber_NoTicket : PySem.W.kitOne K (.ref cc.NoNumber) (.ref cc.NoTicket) = some false
  ki_NoNumber_NoSize : PySem.W.kitOne K (.ref cc.NoNumber) (.ref cc.NoSize) = some false
  ki_NoNumber_NoEnd : PySem.W.kitOne K (.ref cc.NoNumber) (.ref cc.NoEnd) = some false
  ki_NoNumber_NoDeed : PySem.W.kitOne K (.ref cc.NoNumber) (.ref cc.NoDeed) = some false
  ki_NoNumber_NoText : PySem.W.kitOne K (.ref cc.NoNumber) (.ref cc.NoText) = some false
  ki_NoNumber_NoRow : PySem.W.kitOne K (.ref cc.NoNumber) (.ref cc.NoRow) = some false
  ki_NoNumber_NoForm : PySem.W.kitOne K (.ref cc.NoNumber) (.ref cc.NoForm) = some false
  ki_NoNumber_Halted : PySem.W.kitOne K (.ref cc.NoNumber) (.ref cc.Halted) = some false
  ki_NoNumber_NoBack : PySem.W.kitOne K (.ref cc.NoNumber) (.ref cc.NoBack) = some false
  ki_NoNumber_NoSuch : PySem.W.kitOne K (.ref cc.NoNumber) (.ref cc.NoSuch) = some false
  ki_NoNumber_NoStream : PySem.W.kitOne K (.ref cc.NoNumber) (.ref cc.NoStream) = some false
  ki_NoNumber_Busy : PySem.W.kitOne K (.ref cc.NoNumber) (.ref cc.Busy) = some false
  ki_NoNumber_Taken : PySem.W.kitOne K (.ref cc.NoNumber) (.ref cc.Taken) = some false
  ki_NoNumber_Same : PySem.W.kitOne K (.ref cc.NoNumber) (.ref cc.Same) = some false
  ki_NoNumber_Spent : PySem.W.kitOne K (.ref cc.NoNumber) (.ref cc.Spent) = some false
  ki_NoNumber_Twice : PySem.W.kitOne K (.ref cc.NoNumber) (.ref cc.Twice) = some false
  ki_NoNumber_TooMany : PySem.W.kitOne K (.ref cc.NoNumber) (.ref cc.TooMany) = some false
  ki_NoNumber_RowsError : PySem.W.kitOne K (.ref cc.NoNumber) (.ref cc.RowsError) = some true
  ki_NoNumber_Absent : PySem.W.kitOne K (.ref cc.NoNumber) (.ref cc.Absent) = some false
  ki_NoNumber_Barred : PySem.W.kitOne K (.ref cc.NoNumber) (.ref cc.Barred) = some false
  ki_NoNumber_ValueError : PySem.W.kitOne K (.ref cc.NoNumber) (.type "ValueError") = some true
  ki_NoNumber_LookupError : PySem.W.kitOne K (.ref cc.NoNumber) (.type "LookupError") = some false
  ki_NoNumber_RuntimeError : PySem.W.kitOne K (.ref cc.NoNumber) (.type "RuntimeError") = some false
  ki_NoNumber_ArithmeticError : PySem.W.kitOne K (.ref cc.NoNumber) (.type "ArithmeticError") = some false
  k_NoPlace : PySem.W.keepIn K (.ref cc.NoPlace) = true
  x_NoPlace : PySem.W.excIn K cc.NoPlace [.type "ValueError", .type "Exception", .type "BaseException", .type "object"] "ValueError.__new__" = true
  b_NoPlace : PySem.W.subIn K (.ref cc.NoPlace) (.type "BaseException") = some true
  t_NoPlace : PySem.W.typeIn K (.ref cc.NoPlace) = some (.type "type")
  eg_NoPlace : PySem.W.findIn K (.ref cc.NoPlace) "__getattribute__" = some (some (.builtin "BaseException.__getattribute__"))
  ek_NoPlace : PySem.W.findIn K (.ref cc.NoPlace) "__getattr__" = some none
  ed_NoPlace : PySem.W.hasDictIn K cc.NoPlace = true
  ea_NoPlace : PySem.W.findIn K (.ref cc.NoPlace) "__class__" = some (some (.builtin "object.__class__"))
  em_NoPlace : PySem.W.mroIn K cc.NoPlace (.type "object") = some true
  ki_NoPlace_NoNumber : PySem.W.kitOne K (.ref cc.NoPlace) (.ref cc.NoNumber) = some false
  ki_NoPlace_NoPlace : PySem.W.kitOne K (.ref cc.NoPlace) (.ref cc.NoPlace) = some true
  ki_NoPlace_NoOrder : PySem.W.kitOne K (.ref cc.NoPlace) (.ref cc.NoOrder) = some false
  ki_NoPlace_NoPattern : PySem.W.kitOne K (.ref cc.NoPlace) (.ref cc.NoPattern) = some false
  ki_NoPlace_NoLetter : PySem.W.kitOne K (.ref cc.NoPlace) (.ref cc.NoLetter) = some false
  ki_NoPlace_NoTicket : PySem.W.kitOne K (.ref cc.NoPlace) (.ref cc.NoTicket) = some false
  ki_NoPlace_NoSize : PySem.W.kitOne K (.ref cc.NoPlace) (.ref cc.NoSize) = some false
  ki_NoPlace_NoEnd : PySem.W.kitOne K (.ref cc.NoPlace) (.ref cc.NoEnd) = some false
  ki_NoPlace_NoDeed : PySem.W.kitOne K (.ref cc.NoPlace) (.ref cc.NoDeed) = some false
  ki_NoPlace_NoText : PySem.W.kitOne K (.ref cc.NoPlace) (.ref cc.NoText) = some false
  ki_NoPlace_NoRow : PySem.W.kitOne K (.ref cc.NoPlace) (.ref cc.NoRow) = some false
  ki_NoPlace_NoForm : PySem.W.kitOne K (.ref cc.NoPlace) (.ref cc.NoForm) = some false
  ki_NoPlace_Halted : PySem.W.kitOne K (.ref cc.NoPlace) (.ref cc.Halted) = some false
  ki_NoPlace_NoBack : PySem.W.kitOne K (.ref cc.NoPlace) (.ref cc.NoBack) = some false
  ki_NoPlace_NoSuch : PySem.W.kitOne K (.ref cc.NoPlace) (.ref cc.NoSuch) = some false
  ki_NoPlace_NoStream : PySem.W.kitOne K (.ref cc.NoPlace) (.ref cc.NoStream) = some false
  ki_NoPlace_Busy : PySem.W.kitOne K (.ref cc.NoPlace) (.ref cc.Busy) = some false
  ki_NoPlace_Taken : PySem.W.kitOne K (.ref cc.NoPlace) (.ref cc.Taken) = some false
  ki_NoPlace_Same : PySem.W.kitOne K (.ref cc.NoPlace) (.ref cc.Same) = some false
  ki_NoPlace_Spent : PySem.W.kitOne K (.ref cc.NoPlace) (.ref cc.Spent) = some false
  ki_NoPlace_Twice : PySem.W.kitOne K (.ref cc.NoPlace) (.ref cc.Twice) = some false
  ki_NoPlace_TooMany : PySem.W.kitOne K (.ref cc.NoPlace) (.ref cc.TooMany) = some false
  ki_NoPlace_RowsError : PySem.W.kitOne K (.ref cc.NoPlace) (.ref cc.RowsError) = some true
  ki_NoPlace_Absent : PySem.W.kitOne K (.ref cc.NoPlace) (.ref cc.Absent) = some false
  ki_NoPlace_Barred : PySem.W.kitOne K (.ref cc.NoPlace) (.ref cc.Barred) = some false
  ki_NoPlace_ValueError : PySem.W.kitOne K (.ref cc.NoPlace) (.type "ValueError") = some true
  ki_NoPlace_LookupError : PySem.W.kitOne K (.ref cc.NoPlace) (.type "LookupError") = some false
  ki_NoPlace_RuntimeError : PySem.W.kitOne K (.ref cc.NoPlace) (.type "RuntimeError") = some false
  ki_NoPlace_ArithmeticError : PySem.W.kitOne K (.ref cc.NoPlace) (.type "ArithmeticError") = some false
  k_NoOrder : PySem.W.keepIn K (.ref cc.NoOrder) = true
  x_NoOrder : PySem.W.excIn K cc.NoOrder [.type "ValueError", .type "Exception", .type "BaseException", .type "object"] "ValueError.__new__" = true
  b_NoOrder : PySem.W.subIn K (.ref cc.NoOrder) (.type "BaseException") = some true
  t_NoOrder : PySem.W.typeIn K (.ref cc.NoOrder) = some (.type "type")
  eg_NoOrder : PySem.W.findIn K (.ref cc.NoOrder) "__getattribute__" = some (some (.builtin "BaseException.__getattribute__"))
  ek_NoOrder : PySem.W.findIn K (.ref cc.NoOrder) "__getattr__" = some none
  ed_NoOrder : PySem.W.hasDictIn K cc.NoOrder = true
  ea_NoOrder : PySem.W.findIn K (.ref cc.NoOrder) "__class__" = some (some (.builtin "object.__class__"))
  em_NoOrder : PySem.W.mroIn K cc.NoOrder (.type "object") = some true
  ki_NoOrder_NoNumber : PySem.W.kitOne K (.ref cc.NoOrder) (.ref cc.NoNumber) = some false
  ki_NoOrder_NoPlace : PySem.W.kitOne K (.ref cc.NoOrder) (.ref cc.NoPlace) = some false
  ki_NoOrder_NoOrder : PySem.W.kitOne K (.ref cc.NoOrder) (.ref cc.NoOrder) = some true
  ki_NoOrder_NoPattern : PySem.W.kitOne K (.ref cc.NoOrder) (.ref cc.NoPattern) = some false
  ki_NoOrder_NoLetter : PySem.W.kitOne K (.ref cc.NoOrder) (.ref cc.NoLetter) = some false
  ki_NoOrder_NoTicket : PySem.W.kitOne K (.ref cc.NoOrder) (.ref cc.NoTicket) = some false
  ki_NoOrder_NoSize : PySem.W.kitOne K (.ref cc.NoOrder) (.ref cc.NoSize) = some false
  ki_NoOrder_NoEnd : PySem.W.kitOne K (.ref cc.NoOrder) (.ref cc.NoEnd) = some false
  ki_NoOrder_NoDeed : PySem.W.kitOne K (.ref cc.NoOrder) (.ref cc.NoDeed) = some false
  ki_NoOrder_NoText : PySem.W.kitOne K (.ref cc.NoOrder) (.ref cc.NoText) = some false
  ki_NoOrder_NoRow : PySem.W.kitOne K (.ref cc.NoOrder) (.ref cc.NoRow) = some false
  ki_NoOrder_NoForm : PySem.W.kitOne K (.ref cc.NoOrder) (.ref cc.NoForm) = some false
  ki_NoOrder_Halted : PySem.W.kitOne K (.ref cc.NoOrder) (.ref cc.Halted) = some false
  ki_NoOrder_NoBack : PySem.W.kitOne K (.ref cc.NoOrder) (.ref cc.NoBack) = some false
  ki_NoOrder_NoSuch : PySem.W.kitOne K (.ref cc.NoOrder) (.ref cc.NoSuch) = some false
  ki_NoOrder_NoStream : PySem.W.kitOne K (.ref cc.NoOrder) (.ref cc.NoStream) = some false
  ki_NoOrder_Busy : PySem.W.kitOne K (.ref cc.NoOrder) (.ref cc.Busy) = some false
  ki_NoOrder_Taken : PySem.W.kitOne K (.ref cc.NoOrder) (.ref cc.Taken) = some false
  ki_NoOrder_Same : PySem.W.kitOne K (.ref cc.NoOrder) (.ref cc.Same) = some false
  ki_NoOrder_Spent : PySem.W.kitOne K (.ref cc.NoOrder) (.ref cc.Spent) = some false
  ki_NoOrder_Twice : PySem.W.kitOne K (.ref cc.NoOrder) (.ref cc.Twice) = some false
  ki_NoOrder_TooMany : PySem.W.kitOne K (.ref cc.NoOrder) (.ref cc.TooMany) = some false
  ki_NoOrder_RowsError : PySem.W.kitOne K (.ref cc.NoOrder) (.ref cc.RowsError) = some true
  ki_NoOrder_Absent : PySem.W.kitOne K (.ref cc.NoOrder) (.ref cc.Absent) = some false
  ki_NoOrder_Barred : PySem.W.kitOne K (.ref cc.NoOrder) (.ref cc.Barred) = some false
  ki_NoOrder_ValueError : PySem.W.kitOne K (.ref cc.NoOrder) (.type "ValueError") = some true
  ki_NoOrder_LookupError : PySem.W.kitOne K (.ref cc.NoOrder) (.type "LookupError") = some false
  ki_NoOrder_RuntimeError : PySem.W.kitOne K (.ref cc.NoOrder) (.type "RuntimeError") = some false
  ki_NoOrder_ArithmeticError : PySem.W.kitOne K (.ref cc.NoOrder) (.type "ArithmeticError") = some false
  k_NoPattern : PySem.W.keepIn K (.ref cc.NoPattern) = true
  x_NoPattern : PySem.W.excIn K cc.NoPattern [.type "ValueError", .type "Exception", .type "BaseException", .type "object"] "ValueError.__new__" = true
  b_NoPattern : PySem.W.subIn K (.ref cc.NoPattern) (.type "BaseException") = some true
  t_NoPattern : PySem.W.typeIn K (.ref cc.NoPattern) = some (.type "type")
  eg_NoPattern : PySem.W.findIn K (.ref cc.NoPattern) "__getattribute__" = some (some (.builtin "BaseException.__getattribute__"))
  ek_NoPattern : PySem.W.findIn K (.ref cc.NoPattern) "__getattr__" = some none
  ed_NoPattern : PySem.W.hasDictIn K cc.NoPattern = true
  ea_NoPattern : PySem.W.findIn K (.ref cc.NoPattern) "__class__" = some (some (.builtin "object.__class__"))
  em_NoPattern : PySem.W.mroIn K cc.NoPattern (.type "object") = some true
  ki_NoPattern_NoNumber : PySem.W.kitOne K (.ref cc.NoPattern) (.ref cc.NoNumber) = some false
  ki_NoPattern_NoPlace : PySem.W.kitOne K (.ref cc.NoPattern) (.ref cc.NoPlace) = some false
  ki_NoPattern_NoOrder : PySem.W.kitOne K (.ref cc.NoPattern) (.ref cc.NoOrder) = some false
  ki_NoPattern_NoPattern : PySem.W.kitOne K (.ref cc.NoPattern) (.ref cc.NoPattern) = some true
  ki_NoPattern_NoLetter : PySem.W.kitOne K (.ref cc.NoPattern) (.ref cc.NoLetter) = some false
  ki_NoPattern_NoTicket : PySem.W.kitOne K (.ref cc.NoPattern) (.ref cc.NoTicket) = some false
  ki_NoPattern_NoSize : PySem.W.kitOne K (.ref cc.NoPattern) (.ref cc.NoSize) = some false
  ki_NoPattern_NoEnd : PySem.W.kitOne K (.ref cc.NoPattern) (.ref cc.NoEnd) = some false
  ki_NoPattern_NoDeed : PySem.W.kitOne K (.ref cc.NoPattern) (.ref cc.NoDeed) = some false
  ki_NoPattern_NoText : PySem.W.kitOne K (.ref cc.NoPattern) (.ref cc.NoText) = some false
  ki_NoPattern_NoRow : PySem.W.kitOne K (.ref cc.NoPattern) (.ref cc.NoRow) = some false
  ki_NoPattern_NoForm : PySem.W.kitOne K (.ref cc.NoPattern) (.ref cc.NoForm) = some false
  ki_NoPattern_Halted : PySem.W.kitOne K (.ref cc.NoPattern) (.ref cc.Halted) = some false
  ki_NoPattern_NoBack : PySem.W.kitOne K (.ref cc.NoPattern) (.ref cc.NoBack) = some false
  ki_NoPattern_NoSuch : PySem.W.kitOne K (.ref cc.NoPattern) (.ref cc.NoSuch) = some false
  ki_NoPattern_NoStream : PySem.W.kitOne K (.ref cc.NoPattern) (.ref cc.NoStream) = some false
  ki_NoPattern_Busy : PySem.W.kitOne K (.ref cc.NoPattern) (.ref cc.Busy) = some false
  ki_NoPattern_Taken : PySem.W.kitOne K (.ref cc.NoPattern) (.ref cc.Taken) = some false
  ki_NoPattern_Same : PySem.W.kitOne K (.ref cc.NoPattern) (.ref cc.Same) = some false
  ki_NoPattern_Spent : PySem.W.kitOne K (.ref cc.NoPattern) (.ref cc.Spent) = some false
  ki_NoPattern_Twice : PySem.W.kitOne K (.ref cc.NoPattern) (.ref cc.Twice) = some false
  ki_NoPattern_TooMany : PySem.W.kitOne K (.ref cc.NoPattern) (.ref cc.TooMany) = some false
  ki_NoPattern_RowsError : PySem.W.kitOne K (.ref cc.NoPattern) (.ref cc.RowsError) = some true
  ki_NoPattern_Absent : PySem.W.kitOne K (.ref cc.NoPattern) (.ref cc.Absent) = some false
  ki_NoPattern_Barred : PySem.W.kitOne K (.ref cc.NoPattern) (.ref cc.Barred) = some false
  ki_NoPattern_ValueError : PySem.W.kitOne K (.ref cc.NoPattern) (.type "ValueError") = some true
  ki_NoPattern_LookupError : PySem.W.kitOne K (.ref cc.NoPattern) (.type "LookupError") = some false
  ki_NoPattern_RuntimeError : PySem.W.kitOne K (.ref cc.NoPattern) (.type "RuntimeError") = some false
  ki_NoPattern_ArithmeticError : PySem.W.kitOne K (.ref cc.NoPattern) (.type "ArithmeticError") = some false
  k_NoLetter : PySem.W.keepIn K (.ref cc.NoLetter) = true
  x_NoLetter : PySem.W.excIn K cc.NoLetter [.type "ValueError", .type "Exception", .type "BaseException", .type "object"] "ValueError.__new__" = true
  b_NoLetter : PySem.W.subIn K (.ref cc.NoLetter) (.type "BaseException") = some true
  t_NoLetter : PySem.W.typeIn K (.ref cc.NoLetter) = some (.type "type")
  eg_NoLetter : PySem.W.findIn K (.ref cc.NoLetter) "__getattribute__" = some (some (.builtin "BaseException.__getattribute__"))
  ek_NoLetter : PySem.W.findIn K (.ref cc.NoLetter) "__getattr__" = some none
  ed_NoLetter : PySem.W.hasDictIn K cc.NoLetter = true
  ea_NoLetter : PySem.W.findIn K (.ref cc.NoLetter) "__class__" = some (some (.builtin "object.__class__"))
  em_NoLetter : PySem.W.mroIn K cc.NoLetter (.type "object") = some true
  ki_NoLetter_NoNumber : PySem.W.kitOne K (.ref cc.NoLetter) (.ref cc.NoNumber) = some false
  ki_NoLetter_NoPlace : PySem.W.kitOne K (.ref cc.NoLetter) (.ref cc.NoPlace) = some false
  ki_NoLetter_NoOrder : PySem.W.kitOne K (.ref cc.NoLetter) (.ref cc.NoOrder) = some false
  ki_NoLetter_NoPattern : PySem.W.kitOne K (.ref cc.NoLetter) (.ref cc.NoPattern) = some false
  ki_NoLetter_NoLetter : PySem.W.kitOne K (.ref cc.NoLetter) (.ref cc.NoLetter) = some true
  ki_NoLetter_NoTicket : PySem.W.kitOne K (.ref cc.NoLetter) (.ref cc.NoTicket) = some false
  ki_NoLetter_NoSize : PySem.W.kitOne K (.ref cc.NoLetter) (.ref cc.NoSize) = some false
  ki_NoLetter_NoEnd : PySem.W.kitOne K (.ref cc.NoLetter) (.ref cc.NoEnd) = some false
  ki_NoLetter_NoDeed : PySem.W.kitOne K (.ref cc.NoLetter) (.ref cc.NoDeed) = some false
  ki_NoLetter_NoText : PySem.W.kitOne K (.ref cc.NoLetter) (.ref cc.NoText) = some false
  ki_NoLetter_NoRow : PySem.W.kitOne K (.ref cc.NoLetter) (.ref cc.NoRow) = some false
  ki_NoLetter_NoForm : PySem.W.kitOne K (.ref cc.NoLetter) (.ref cc.NoForm) = some false
  ki_NoLetter_Halted : PySem.W.kitOne K (.ref cc.NoLetter) (.ref cc.Halted) = some false
  ki_NoLetter_NoBack : PySem.W.kitOne K (.ref cc.NoLetter) (.ref cc.NoBack) = some false
  ki_NoLetter_NoSuch : PySem.W.kitOne K (.ref cc.NoLetter) (.ref cc.NoSuch) = some false
  ki_NoLetter_NoStream : PySem.W.kitOne K (.ref cc.NoLetter) (.ref cc.NoStream) = some false
  ki_NoLetter_Busy : PySem.W.kitOne K (.ref cc.NoLetter) (.ref cc.Busy) = some false
  ki_NoLetter_Taken : PySem.W.kitOne K (.ref cc.NoLetter) (.ref cc.Taken) = some false
  ki_NoLetter_Same : PySem.W.kitOne K (.ref cc.NoLetter) (.ref cc.Same) = some false
  ki_NoLetter_Spent : PySem.W.kitOne K (.ref cc.NoLetter) (.ref cc.Spent) = some false
  ki_NoLetter_Twice : PySem.W.kitOne K (.ref cc.NoLetter) (.ref cc.Twice) = some false
  ki_NoLetter_TooMany : PySem.W.kitOne K (.ref cc.NoLetter) (.ref cc.TooMany) = some false
  ki_NoLetter_RowsError : PySem.W.kitOne K (.ref cc.NoLetter) (.ref cc.RowsError) = some true
  ki_NoLetter_Absent : PySem.W.kitOne K (.ref cc.NoLetter) (.ref cc.Absent) = some false
  ki_NoLetter_Barred : PySem.W.kitOne K (.ref cc.NoLetter) (.ref cc.Barred) = some false
  ki_NoLetter_ValueError : PySem.W.kitOne K (.ref cc.NoLetter) (.type "ValueError") = some true
  ki_NoLetter_LookupError : PySem.W.kitOne K (.ref cc.NoLetter) (.type "LookupError") = some false
  ki_NoLetter_RuntimeError : PySem.W.kitOne K (.ref cc.NoLetter) (.type "RuntimeError") = some false
  ki_NoLetter_ArithmeticError : PySem.W.kitOne K (.ref cc.NoLetter) (.type "ArithmeticError") = some false
  k_NoTicket : PySem.W.keepIn K (.ref cc.NoTicket) = true
  x_NoTicket : PySem.W.excIn K cc.NoTicket [.type "ValueError", .type "Exception", .type "BaseException", .type "object"] "ValueError.__new__" = true
  b_NoTicket : PySem.W.subIn K (.ref cc.NoTicket) (.type "BaseException") = some true
  t_NoTicket : PySem.W.typeIn K (.ref cc.NoTicket) = some (.type "type")
  eg_NoTicket : PySem.W.findIn K (.ref cc.NoTicket) "__getattribute__" = some (some (.builtin "BaseException.__getattribute__"))
  ek_NoTicket : PySem.W.findIn K (.ref cc.NoTicket) "__getattr__" = some none
  ed_NoTicket : PySem.W.hasDictIn K cc.NoTicket = true
  ea_NoTicket : PySem.W.findIn K (.ref cc.NoTicket) "__class__" = some (some (.builtin "object.__class__"))
  em_NoTicket : PySem.W.mroIn K cc.NoTicket (.type "object") = some true
  ki_NoTicket_NoNumber : PySem.W.kitOne K (.ref cc.NoTicket) (.ref cc.NoNumber) = some false
  ki_NoTicket_NoPlace : PySem.W.kitOne K (.ref cc.NoTicket) (.ref cc.NoPlace) = some false
  ki_NoTicket_NoOrder : PySem.W.kitOne K (.ref cc.NoTicket) (.ref cc.NoOrder) = some false
  ki_NoTicket_NoPattern : PySem.W.kitOne K (.ref cc.NoTicket) (.ref cc.NoPattern) = some false
  ki_NoTicket_NoLetter : PySem.W.kitOne K (.ref cc.NoTicket) (.ref cc.NoLetter) = some false
  ki_NoTicket_NoTicket : PySem.W.kitOne K (.ref cc.NoTicket) (.ref cc.NoTicket) = some true
  ki_NoTicket_NoSize : PySem.W.kitOne K (.ref cc.NoTicket) (.ref cc.NoSize) = some false
  ki_NoTicket_NoEnd : PySem.W.kitOne K (.ref cc.NoTicket) (.ref cc.NoEnd) = some false
  ki_NoTicket_NoDeed : PySem.W.kitOne K (.ref cc.NoTicket) (.ref cc.NoDeed) = some false
  ki_NoTicket_NoText : PySem.W.kitOne K (.ref cc.NoTicket) (.ref cc.NoText) = some false
  ki_NoTicket_NoRow : PySem.W.kitOne K (.ref cc.NoTicket) (.ref cc.NoRow) = some false
  ki_NoTicket_NoForm : PySem.W.kitOne K (.ref cc.NoTicket) (.ref cc.NoForm) = some false
  ki_NoTicket_Halted : PySem.W.kitOne K (.ref cc.NoTicket) (.ref cc.Halted) = some false
  ki_NoTicket_NoBack : PySem.W.kitOne K (.ref cc.NoTicket) (.ref cc.NoBack) = some false
  ki_NoTicket_NoSuch : PySem.W.kitOne K (.ref cc.NoTicket) (.ref cc.NoSuch) = some false
  ki_NoTicket_NoStream : PySem.W.kitOne K (.ref cc.NoTicket) (.ref cc.NoStream) = some false
  ki_NoTicket_Busy : PySem.W.kitOne K (.ref cc.NoTicket) (.ref cc.Busy) = some false
  ki_NoTicket_Taken : PySem.W.kitOne K (.ref cc.NoTicket) (.ref cc.Taken) = some false
  ki_NoTicket_Same : PySem.W.kitOne K (.ref cc.NoTicket) (.ref cc.Same) = some false
  ki_NoTicket_Spent : PySem.W.kitOne K (.ref cc.NoTicket) (.ref cc.Spent) = some false
  ki_NoTicket_Twice : PySem.W.kitOne K (.ref cc.NoTicket) (.ref cc.Twice) = some false
  ki_NoTicket_TooMany : PySem.W.kitOne K (.ref cc.NoTicket) (.ref cc.TooMany) = some false
  ki_NoTicket_RowsError : PySem.W.kitOne K (.ref cc.NoTicket) (.ref cc.RowsError) = some true
  ki_NoTicket_Absent : PySem.W.kitOne K (.ref cc.NoTicket) (.ref cc.Absent) = some false
  ki_NoTicket_Barred : PySem.W.kitOne K (.ref cc.NoTicket) (.ref cc.Barred) = some false
  ki_NoTicket_ValueError : PySem.W.kitOne K (.ref cc.NoTicket) (.type "ValueError") = some true
  ki_NoTicket_LookupError : PySem.W.kitOne K (.ref cc.NoTicket) (.type "LookupError") = some false
  ki_NoTicket_RuntimeError : PySem.W.kitOne K (.ref cc.NoTicket) (.type "RuntimeError") = some false
  ki_NoTicket_ArithmeticError : PySem.W.kitOne K (.ref cc.NoTicket) (.type "ArithmeticError") = some false
  k_NoSize : PySem.W.keepIn K (.ref cc.NoSize) = true
  x_NoSize : PySem.W.excIn K cc.NoSize [.type "ValueError", .type "Exception", .type "BaseException", .type "object"] "ValueError.__new__" = true
  b_NoSize : PySem.W.subIn K (.ref cc.NoSize) (.type "BaseException") = some true
  t_NoSize : PySem.W.typeIn K (.ref cc.NoSize) = some (.type "type")
  eg_NoSize : PySem.W.findIn K (.ref cc.NoSize) "__getattribute__" = some (some (.builtin "BaseException.__getattribute__"))
  ek_NoSize : PySem.W.findIn K (.ref cc.NoSize) "__getattr__" = some none
  ed_NoSize : PySem.W.hasDictIn K cc.NoSize = true
  ea_NoSize : PySem.W.findIn K (.ref cc.NoSize) "__class__" = some (some (.builtin "object.__class__"))
  em_NoSize : PySem.W.mroIn K cc.NoSize (.type "object") = some true
  ki_NoSize_NoNumber : PySem.W.kitOne K (.ref cc.NoSize) (.ref cc.NoNumber) = some false
  ki_NoSize_NoPlace : PySem.W.kitOne K (.ref cc.NoSize) (.ref cc.NoPlace) = some false
  ki_NoSize_NoOrder : PySem.W.kitOne K (.ref cc.NoSize) (.ref cc.NoOrder) = some false
  ki_NoSize_NoPattern : PySem.W.kitOne K (.ref cc.NoSize) (.ref cc.NoPattern) = some false
  ki_NoSize_NoLetter : PySem.W.kitOne K (.ref cc.NoSize) (.ref cc.NoLetter) = some false
  ki_NoSize_NoTicket : PySem.W.kitOne K (.ref cc.NoSize) (.ref cc.NoTicket) = some false
  ki_NoSize_NoSize : PySem.W.kitOne K (.ref cc.NoSize) (.ref cc.NoSize) = some true
  ki_NoSize_NoEnd : PySem.W.kitOne K (.ref cc.NoSize) (.ref cc.NoEnd) = some false
  ki_NoSize_NoDeed : PySem.W.kitOne K (.ref cc.NoSize) (.ref cc.NoDeed) = some false
  ki_NoSize_NoText : PySem.W.kitOne K (.ref cc.NoSize) (.ref cc.NoText) = some false
  ki_NoSize_NoRow : PySem.W.kitOne K (.ref cc.NoSize) (.ref cc.NoRow) = some false
  ki_NoSize_NoForm : PySem.W.kitOne K (.ref cc.NoSize) (.ref cc.NoForm) = some false
  ki_NoSize_Halted : PySem.W.kitOne K (.ref cc.NoSize) (.ref cc.Halted) = some false
  ki_NoSize_NoBack : PySem.W.kitOne K (.ref cc.NoSize) (.ref cc.NoBack) = some false
  ki_NoSize_NoSuch : PySem.W.kitOne K (.ref cc.NoSize) (.ref cc.NoSuch) = some false
  ki_NoSize_NoStream : PySem.W.kitOne K (.ref cc.NoSize) (.ref cc.NoStream) = some false
  ki_NoSize_Busy : PySem.W.kitOne K (.ref cc.NoSize) (.ref cc.Busy) = some false
  ki_NoSize_Taken : PySem.W.kitOne K (.ref cc.NoSize) (.ref cc.Taken) = some false
  ki_NoSize_Same : PySem.W.kitOne K (.ref cc.NoSize) (.ref cc.Same) = some false
  ki_NoSize_Spent : PySem.W.kitOne K (.ref cc.NoSize) (.ref cc.Spent) = some false
  ki_NoSize_Twice : PySem.W.kitOne K (.ref cc.NoSize) (.ref cc.Twice) = some false
  ki_NoSize_TooMany : PySem.W.kitOne K (.ref cc.NoSize) (.ref cc.TooMany) = some false
  ki_NoSize_RowsError : PySem.W.kitOne K (.ref cc.NoSize) (.ref cc.RowsError) = some true
  ki_NoSize_Absent : PySem.W.kitOne K (.ref cc.NoSize) (.ref cc.Absent) = some false
  ki_NoSize_Barred : PySem.W.kitOne K (.ref cc.NoSize) (.ref cc.Barred) = some false
  ki_NoSize_ValueError : PySem.W.kitOne K (.ref cc.NoSize) (.type "ValueError") = some true
  ki_NoSize_LookupError : PySem.W.kitOne K (.ref cc.NoSize) (.type "LookupError") = some false
  ki_NoSize_RuntimeError : PySem.W.kitOne K (.ref cc.NoSize) (.type "RuntimeError") = some false
  ki_NoSize_ArithmeticError : PySem.W.kitOne K (.ref cc.NoSize) (.type "ArithmeticError") = some false
  k_NoEnd : PySem.W.keepIn K (.ref cc.NoEnd) = true
  x_NoEnd : PySem.W.excIn K cc.NoEnd [.type "ValueError", .type "Exception", .type "BaseException", .type "object"] "ValueError.__new__" = true
  b_NoEnd : PySem.W.subIn K (.ref cc.NoEnd) (.type "BaseException") = some true
  t_NoEnd : PySem.W.typeIn K (.ref cc.NoEnd) = some (.type "type")
  eg_NoEnd : PySem.W.findIn K (.ref cc.NoEnd) "__getattribute__" = some (some (.builtin "BaseException.__getattribute__"))
  ek_NoEnd : PySem.W.findIn K (.ref cc.NoEnd) "__getattr__" = some none
  ed_NoEnd : PySem.W.hasDictIn K cc.NoEnd = true
  ea_NoEnd : PySem.W.findIn K (.ref cc.NoEnd) "__class__" = some (some (.builtin "object.__class__"))
  em_NoEnd : PySem.W.mroIn K cc.NoEnd (.type "object") = some true
  ki_NoEnd_NoNumber : PySem.W.kitOne K (.ref cc.NoEnd) (.ref cc.NoNumber) = some false
  ki_NoEnd_NoPlace : PySem.W.kitOne K (.ref cc.NoEnd) (.ref cc.NoPlace) = some false
  ki_NoEnd_NoOrder : PySem.W.kitOne K (.ref cc.NoEnd) (.ref cc.NoOrder) = some false
  ki_NoEnd_NoPattern : PySem.W.kitOne K (.ref cc.NoEnd) (.ref cc.NoPattern) = some false
  ki_NoEnd_NoLetter : PySem.W.kitOne K (.ref cc.NoEnd) (.ref cc.NoLetter) = some false
  ki_NoEnd_NoTicket : PySem.W.kitOne K (.ref cc.NoEnd) (.ref cc.NoTicket) = some false
  ki_NoEnd_NoSize : PySem.W.kitOne K (.ref cc.NoEnd) (.ref cc.NoSize) = some false
  ki_NoEnd_NoEnd : PySem.W.kitOne K (.ref cc.NoEnd) (.ref cc.NoEnd) = some true
  ki_NoEnd_NoDeed : PySem.W.kitOne K (.ref cc.NoEnd) (.ref cc.NoDeed) = some false
  ki_NoEnd_NoText : PySem.W.kitOne K (.ref cc.NoEnd) (.ref cc.NoText) = some false
  ki_NoEnd_NoRow : PySem.W.kitOne K (.ref cc.NoEnd) (.ref cc.NoRow) = some false
  ki_NoEnd_NoForm : PySem.W.kitOne K (.ref cc.NoEnd) (.ref cc.NoForm) = some false
  ki_NoEnd_Halted : PySem.W.kitOne K (.ref cc.NoEnd) (.ref cc.Halted) = some false
  ki_NoEnd_NoBack : PySem.W.kitOne K (.ref cc.NoEnd) (.ref cc.NoBack) = some false
  ki_NoEnd_NoSuch : PySem.W.kitOne K (.ref cc.NoEnd) (.ref cc.NoSuch) = some false
  ki_NoEnd_NoStream : PySem.W.kitOne K (.ref cc.NoEnd) (.ref cc.NoStream) = some false
  ki_NoEnd_Busy : PySem.W.kitOne K (.ref cc.NoEnd) (.ref cc.Busy) = some false
  ki_NoEnd_Taken : PySem.W.kitOne K (.ref cc.NoEnd) (.ref cc.Taken) = some false
  ki_NoEnd_Same : PySem.W.kitOne K (.ref cc.NoEnd) (.ref cc.Same) = some false
  ki_NoEnd_Spent : PySem.W.kitOne K (.ref cc.NoEnd) (.ref cc.Spent) = some false
  ki_NoEnd_Twice : PySem.W.kitOne K (.ref cc.NoEnd) (.ref cc.Twice) = some false
  ki_NoEnd_TooMany : PySem.W.kitOne K (.ref cc.NoEnd) (.ref cc.TooMany) = some false
  ki_NoEnd_RowsError : PySem.W.kitOne K (.ref cc.NoEnd) (.ref cc.RowsError) = some true
  ki_NoEnd_Absent : PySem.W.kitOne K (.ref cc.NoEnd) (.ref cc.Absent) = some false
  ki_NoEnd_Barred : PySem.W.kitOne K (.ref cc.NoEnd) (.ref cc.Barred) = some false
  ki_NoEnd_ValueError : PySem.W.kitOne K (.ref cc.NoEnd) (.type "ValueError") = some true
  ki_NoEnd_LookupError : PySem.W.kitOne K (.ref cc.NoEnd) (.type "LookupError") = some false
  ki_NoEnd_RuntimeError : PySem.W.kitOne K (.ref cc.NoEnd) (.type "RuntimeError") = some false
  ki_NoEnd_ArithmeticError : PySem.W.kitOne K (.ref cc.NoEnd) (.type "ArithmeticError") = some false
  k_NoDeed : PySem.W.keepIn K (.ref cc.NoDeed) = true
  x_NoDeed : PySem.W.excIn K cc.NoDeed [.type "ValueError", .type "Exception", .type "BaseException", .type "object"] "ValueError.__new__" = true
  b_NoDeed : PySem.W.subIn K (.ref cc.NoDeed) (.type "BaseException") = some true
  t_NoDeed : PySem.W.typeIn K (.ref cc.NoDeed) = some (.type "type")
  eg_NoDeed : PySem.W.findIn K (.ref cc.NoDeed) "__getattribute__" = some (some (.builtin "BaseException.__getattribute__"))
  ek_NoDeed : PySem.W.findIn K (.ref cc.NoDeed) "__getattr__" = some none
  ed_NoDeed : PySem.W.hasDictIn K cc.NoDeed = true
  ea_NoDeed : PySem.W.findIn K (.ref cc.NoDeed) "__class__" = some (some (.builtin "object.__class__"))
  em_NoDeed : PySem.W.mroIn K cc.NoDeed (.type "object") = some true
  ki_NoDeed_NoNumber : PySem.W.kitOne K (.ref cc.NoDeed) (.ref cc.NoNumber) = some false
  ki_NoDeed_NoPlace : PySem.W.kitOne K (.ref cc.NoDeed) (.ref cc.NoPlace) = some false
  ki_NoDeed_NoOrder : PySem.W.kitOne K (.ref cc.NoDeed) (.ref cc.NoOrder) = some false
  ki_NoDeed_NoPattern : PySem.W.kitOne K (.ref cc.NoDeed) (.ref cc.NoPattern) = some false
  ki_NoDeed_NoLetter : PySem.W.kitOne K (.ref cc.NoDeed) (.ref cc.NoLetter) = some false
  ki_NoDeed_NoTicket : PySem.W.kitOne K (.ref cc.NoDeed) (.ref cc.NoTicket) = some false
  ki_NoDeed_NoSize : PySem.W.kitOne K (.ref cc.NoDeed) (.ref cc.NoSize) = some false
  ki_NoDeed_NoEnd : PySem.W.kitOne K (.ref cc.NoDeed) (.ref cc.NoEnd) = some false
  ki_NoDeed_NoDeed : PySem.W.kitOne K (.ref cc.NoDeed) (.ref cc.NoDeed) = some true
  ki_NoDeed_NoText : PySem.W.kitOne K (.ref cc.NoDeed) (.ref cc.NoText) = some false
  ki_NoDeed_NoRow : PySem.W.kitOne K (.ref cc.NoDeed) (.ref cc.NoRow) = some false
  ki_NoDeed_NoForm : PySem.W.kitOne K (.ref cc.NoDeed) (.ref cc.NoForm) = some false
  ki_NoDeed_Halted : PySem.W.kitOne K (.ref cc.NoDeed) (.ref cc.Halted) = some false
  ki_NoDeed_NoBack : PySem.W.kitOne K (.ref cc.NoDeed) (.ref cc.NoBack) = some false
  ki_NoDeed_NoSuch : PySem.W.kitOne K (.ref cc.NoDeed) (.ref cc.NoSuch) = some false
  ki_NoDeed_NoStream : PySem.W.kitOne K (.ref cc.NoDeed) (.ref cc.NoStream) = some false
  ki_NoDeed_Busy : PySem.W.kitOne K (.ref cc.NoDeed) (.ref cc.Busy) = some false
  ki_NoDeed_Taken : PySem.W.kitOne K (.ref cc.NoDeed) (.ref cc.Taken) = some false
  ki_NoDeed_Same : PySem.W.kitOne K (.ref cc.NoDeed) (.ref cc.Same) = some false
  ki_NoDeed_Spent : PySem.W.kitOne K (.ref cc.NoDeed) (.ref cc.Spent) = some false
  ki_NoDeed_Twice : PySem.W.kitOne K (.ref cc.NoDeed) (.ref cc.Twice) = some false
  ki_NoDeed_TooMany : PySem.W.kitOne K (.ref cc.NoDeed) (.ref cc.TooMany) = some false
  ki_NoDeed_RowsError : PySem.W.kitOne K (.ref cc.NoDeed) (.ref cc.RowsError) = some true
  ki_NoDeed_Absent : PySem.W.kitOne K (.ref cc.NoDeed) (.ref cc.Absent) = some false
  ki_NoDeed_Barred : PySem.W.kitOne K (.ref cc.NoDeed) (.ref cc.Barred) = some false
  ki_NoDeed_ValueError : PySem.W.kitOne K (.ref cc.NoDeed) (.type "ValueError") = some true
  ki_NoDeed_LookupError : PySem.W.kitOne K (.ref cc.NoDeed) (.type "LookupError") = some false
  ki_NoDeed_RuntimeError : PySem.W.kitOne K (.ref cc.NoDeed) (.type "RuntimeError") = some false
  ki_NoDeed_ArithmeticError : PySem.W.kitOne K (.ref cc.NoDeed) (.type "ArithmeticError") = some false
  k_NoText : PySem.W.keepIn K (.ref cc.NoText) = true
  x_NoText : PySem.W.excIn K cc.NoText [.type "ValueError", .type "Exception", .type "BaseException", .type "object"] "ValueError.__new__" = true
  b_NoText : PySem.W.subIn K (.ref cc.NoText) (.type "BaseException") = some true
  t_NoText : PySem.W.typeIn K (.ref cc.NoText) = some (.type "type")
  eg_NoText : PySem.W.findIn K (.ref cc.NoText) "__getattribute__" = some (some (.builtin "BaseException.__getattribute__"))
  ek_NoText : PySem.W.findIn K (.ref cc.NoText) "__getattr__" = some none
  ed_NoText : PySem.W.hasDictIn K cc.NoText = true
  ea_NoText : PySem.W.findIn K (.ref cc.NoText) "__class__" = some (some (.builtin "object.__class__"))
  em_NoText : PySem.W.mroIn K cc.NoText (.type "object") = some true
  ki_NoText_NoNumber : PySem.W.kitOne K (.ref cc.NoText) (.ref cc.NoNumber) = some false
  ki_NoText_NoPlace : PySem.W.kitOne K (.ref cc.NoText) (.ref cc.NoPlace) = some false
  ki_NoText_NoOrder : PySem.W.kitOne K (.ref cc.NoText) (.ref cc.NoOrder) = some false
  ki_NoText_NoPattern : PySem.W.kitOne K (.ref cc.NoText) (.ref cc.NoPattern) = some false
  ki_NoText_NoLetter : PySem.W.kitOne K (.ref cc.NoText) (.ref cc.NoLetter) = some false
  ki_NoText_NoTicket : PySem.W.kitOne K (.ref cc.NoText) (.ref cc.NoTicket) = some false
  ki_NoText_NoSize : PySem.W.kitOne K (.ref cc.NoText) (.ref cc.NoSize) = some false
  ki_NoText_NoEnd : PySem.W.kitOne K (.ref cc.NoText) (.ref cc.NoEnd) = some false
  ki_NoText_NoDeed : PySem.W.kitOne K (.ref cc.NoText) (.ref cc.NoDeed) = some false
  ki_NoText_NoText : PySem.W.kitOne K (.ref cc.NoText) (.ref cc.NoText) = some true
  ki_NoText_NoRow : PySem.W.kitOne K (.ref cc.NoText) (.ref cc.NoRow) = some false
  ki_NoText_NoForm : PySem.W.kitOne K (.ref cc.NoText) (.ref cc.NoForm) = some false
  ki_NoText_Halted : PySem.W.kitOne K (.ref cc.NoText) (.ref cc.Halted) = some false
  ki_NoText_NoBack : PySem.W.kitOne K (.ref cc.NoText) (.ref cc.NoBack) = some false
  ki_NoText_NoSuch : PySem.W.kitOne K (.ref cc.NoText) (.ref cc.NoSuch) = some false
  ki_NoText_NoStream : PySem.W.kitOne K (.ref cc.NoText) (.ref cc.NoStream) = some false
  ki_NoText_Busy : PySem.W.kitOne K (.ref cc.NoText) (.ref cc.Busy) = some false
  ki_NoText_Taken : PySem.W.kitOne K (.ref cc.NoText) (.ref cc.Taken) = some false
  ki_NoText_Same : PySem.W.kitOne K (.ref cc.NoText) (.ref cc.Same) = some false
  ki_NoText_Spent : PySem.W.kitOne K (.ref cc.NoText) (.ref cc.Spent) = some false
  ki_NoText_Twice : PySem.W.kitOne K (.ref cc.NoText) (.ref cc.Twice) = some false
  ki_NoText_TooMany : PySem.W.kitOne K (.ref cc.NoText) (.ref cc.TooMany) = some false
  ki_NoText_RowsError : PySem.W.kitOne K (.ref cc.NoText) (.ref cc.RowsError) = some true
  ki_NoText_Absent : PySem.W.kitOne K (.ref cc.NoText) (.ref cc.Absent) = some false
  ki_NoText_Barred : PySem.W.kitOne K (.ref cc.NoText) (.ref cc.Barred) = some false
  ki_NoText_ValueError : PySem.W.kitOne K (.ref cc.NoText) (.type "ValueError") = some true
  ki_NoText_LookupError : PySem.W.kitOne K (.ref cc.NoText) (.type "LookupError") = some false
  ki_NoText_RuntimeError : PySem.W.kitOne K (.ref cc.NoText) (.type "RuntimeError") = some false
  ki_NoText_ArithmeticError : PySem.W.kitOne K (.ref cc.NoText) (.type "ArithmeticError") = some false
  k_NoRow : PySem.W.keepIn K (.ref cc.NoRow) = true
  x_NoRow : PySem.W.excIn K cc.NoRow [.type "ValueError", .type "Exception", .type "BaseException", .type "object"] "ValueError.__new__" = true
  b_NoRow : PySem.W.subIn K (.ref cc.NoRow) (.type "BaseException") = some true
  t_NoRow : PySem.W.typeIn K (.ref cc.NoRow) = some (.type "type")
  eg_NoRow : PySem.W.findIn K (.ref cc.NoRow) "__getattribute__" = some (some (.builtin "BaseException.__getattribute__"))
  ek_NoRow : PySem.W.findIn K (.ref cc.NoRow) "__getattr__" = some none
  ed_NoRow : PySem.W.hasDictIn K cc.NoRow = true
  ea_NoRow : PySem.W.findIn K (.ref cc.NoRow) "__class__" = some (some (.builtin "object.__class__"))
  em_NoRow : PySem.W.mroIn K cc.NoRow (.type "object") = some true
  ki_NoRow_NoNumber : PySem.W.kitOne K (.ref cc.NoRow) (.ref cc.NoNumber) = some false
  ki_NoRow_NoPlace : PySem.W.kitOne K (.ref cc.NoRow) (.ref cc.NoPlace) = some false
  ki_NoRow_NoOrder : PySem.W.kitOne K (.ref cc.NoRow) (.ref cc.NoOrder) = some false
  ki_NoRow_NoPattern : PySem.W.kitOne K (.ref cc.NoRow) (.ref cc.NoPattern) = some false
  ki_NoRow_NoLetter : PySem.W.kitOne K (.ref cc.NoRow) (.ref cc.NoLetter) = some false
  ki_NoRow_NoTicket : PySem.W.kitOne K (.ref cc.NoRow) (.ref cc.NoTicket) = some false
  ki_NoRow_NoSize : PySem.W.kitOne K (.ref cc.NoRow) (.ref cc.NoSize) = some false
  ki_NoRow_NoEnd : PySem.W.kitOne K (.ref cc.NoRow) (.ref cc.NoEnd) = some false
  ki_NoRow_NoDeed : PySem.W.kitOne K (.ref cc.NoRow) (.ref cc.NoDeed) = some false
  ki_NoRow_NoText : PySem.W.kitOne K (.ref cc.NoRow) (.ref cc.NoText) = some false
  ki_NoRow_NoRow : PySem.W.kitOne K (.ref cc.NoRow) (.ref cc.NoRow) = some true
  ki_NoRow_NoForm : PySem.W.kitOne K (.ref cc.NoRow) (.ref cc.NoForm) = some false
  ki_NoRow_Halted : PySem.W.kitOne K (.ref cc.NoRow) (.ref cc.Halted) = some false
  ki_NoRow_NoBack : PySem.W.kitOne K (.ref cc.NoRow) (.ref cc.NoBack) = some false
  ki_NoRow_NoSuch : PySem.W.kitOne K (.ref cc.NoRow) (.ref cc.NoSuch) = some false
  ki_NoRow_NoStream : PySem.W.kitOne K (.ref cc.NoRow) (.ref cc.NoStream) = some false
  ki_NoRow_Busy : PySem.W.kitOne K (.ref cc.NoRow) (.ref cc.Busy) = some false
  ki_NoRow_Taken : PySem.W.kitOne K (.ref cc.NoRow) (.ref cc.Taken) = some false
  ki_NoRow_Same : PySem.W.kitOne K (.ref cc.NoRow) (.ref cc.Same) = some false
  ki_NoRow_Spent : PySem.W.kitOne K (.ref cc.NoRow) (.ref cc.Spent) = some false
  ki_NoRow_Twice : PySem.W.kitOne K (.ref cc.NoRow) (.ref cc.Twice) = some false
  ki_NoRow_TooMany : PySem.W.kitOne K (.ref cc.NoRow) (.ref cc.TooMany) = some false
  ki_NoRow_RowsError : PySem.W.kitOne K (.ref cc.NoRow) (.ref cc.RowsError) = some true
  ki_NoRow_Absent : PySem.W.kitOne K (.ref cc.NoRow) (.ref cc.Absent) = some false
  ki_NoRow_Barred : PySem.W.kitOne K (.ref cc.NoRow) (.ref cc.Barred) = some false
  ki_NoRow_ValueError : PySem.W.kitOne K (.ref cc.NoRow) (.type "ValueError") = some true
  ki_NoRow_LookupError : PySem.W.kitOne K (.ref cc.NoRow) (.type "LookupError") = some false
  ki_NoRow_RuntimeError : PySem.W.kitOne K (.ref cc.NoRow) (.type "RuntimeError") = some false
  ki_NoRow_ArithmeticError : PySem.W.kitOne K (.ref cc.NoRow) (.type "ArithmeticError") = some false
  k_NoForm : PySem.W.keepIn K (.ref cc.NoForm) = true
  o_NoForm : AexC K cc.NoForm "ValueError.__new__" [.type "ValueError", .type "Exception", .type "BaseException", .type "object"]
  n_NoForm_what : PySem.W.findIn K (.ref cc.NoForm) "what" = some none
  sg_RowsError : PySem.W.specialIn K (.ref cc.RowsError) "__getattribute__" = some (some (.builtin "type.__getattribute__"))
  rd_RowsError : PySem.W.readsIn K cc.RowsError (.type "type") = true
  fv_RowsError : PySem.W.findCls K (.ref cc.RowsError) (.type "type") "__init__" = some (.val (.builtin "ValueError.__init__"))
  eg_NoForm : PySem.W.findIn K (.ref cc.NoForm) "__getattribute__" = some (some (.builtin "BaseException.__getattribute__"))
  ek_NoForm : PySem.W.findIn K (.ref cc.NoForm) "__getattr__" = some none
  ed_NoForm : PySem.W.hasDictIn K cc.NoForm = true
  b_NoForm : PySem.W.subIn K (.ref cc.NoForm) (.type "BaseException") = some true
  t_NoForm : PySem.W.typeIn K (.ref cc.NoForm) = some (.type "type")
  ea_NoForm : PySem.W.findIn K (.ref cc.NoForm) "__class__" = some (some (.builtin "object.__class__"))
  em_NoForm : PySem.W.mroIn K cc.NoForm (.type "object") = some true
  ki_NoForm_NoNumber : PySem.W.kitOne K (.ref cc.NoForm) (.ref cc.NoNumber) = some false
  ki_NoForm_NoPlace : PySem.W.kitOne K (.ref cc.NoForm) (.ref cc.NoPlace) = some false
  ki_NoForm_NoOrder : PySem.W.kitOne K (.ref cc.NoForm) (.ref cc.NoOrder) = some false
  ki_NoForm_NoPattern : PySem.W.kitOne K (.ref cc.NoForm) (.ref cc.NoPattern) = some false
  ki_NoForm_NoLetter : PySem.W.kitOne K (.ref cc.NoForm) (.ref cc.NoLetter) = some false
  ki_NoForm_NoTicket : PySem.W.kitOne K (.ref cc.NoForm) (.ref cc.NoTicket) = some false
  ki_NoForm_NoSize : PySem.W.kitOne K (.ref cc.NoForm) (.ref cc.NoSize) = some false
  ki_NoForm_NoEnd : PySem.W.kitOne K (.ref cc.NoForm) (.ref cc.NoEnd) = some false
  ki_NoForm_NoDeed : PySem.W.kitOne K (.ref cc.NoForm) (.ref cc.NoDeed) = some false
  ki_NoForm_NoText : PySem.W.kitOne K (.ref cc.NoForm) (.ref cc.NoText) = some false
  ki_NoForm_NoRow : PySem.W.kitOne K (.ref cc.NoForm) (.ref cc.NoRow) = some false
  ki_NoForm_NoForm : PySem.W.kitOne K (.ref cc.NoForm) (.ref cc.NoForm) = some true
  ki_NoForm_Halted : PySem.W.kitOne K (.ref cc.NoForm) (.ref cc.Halted) = some false
  ki_NoForm_NoBack : PySem.W.kitOne K (.ref cc.NoForm) (.ref cc.NoBack) = some false
  ki_NoForm_NoSuch : PySem.W.kitOne K (.ref cc.NoForm) (.ref cc.NoSuch) = some false
  ki_NoForm_NoStream : PySem.W.kitOne K (.ref cc.NoForm) (.ref cc.NoStream) = some false
  ki_NoForm_Busy : PySem.W.kitOne K (.ref cc.NoForm) (.ref cc.Busy) = some false
  ki_NoForm_Taken : PySem.W.kitOne K (.ref cc.NoForm) (.ref cc.Taken) = some false
  ki_NoForm_Same : PySem.W.kitOne K (.ref cc.NoForm) (.ref cc.Same) = some false
  ki_NoForm_Spent : PySem.W.kitOne K (.ref cc.NoForm) (.ref cc.Spent) = some false
  ki_NoForm_Twice : PySem.W.kitOne K (.ref cc.NoForm) (.ref cc.Twice) = some false
  ki_NoForm_TooMany : PySem.W.kitOne K (.ref cc.NoForm) (.ref cc.TooMany) = some false
  ki_NoForm_RowsError : PySem.W.kitOne K (.ref cc.NoForm) (.ref cc.RowsError) = some true
  ki_NoForm_Absent : PySem.W.kitOne K (.ref cc.NoForm) (.ref cc.Absent) = some false
  ki_NoForm_Barred : PySem.W.kitOne K (.ref cc.NoForm) (.ref cc.Barred) = some false
  ki_NoForm_ValueError : PySem.W.kitOne K (.ref cc.NoForm) (.type "ValueError") = some true
  ki_NoForm_LookupError : PySem.W.kitOne K (.ref cc.NoForm) (.type "LookupError") = some false
  ki_NoForm_RuntimeError : PySem.W.kitOne K (.ref cc.NoForm) (.type "RuntimeError") = some false
  ki_NoForm_ArithmeticError : PySem.W.kitOne K (.ref cc.NoForm) (.type "ArithmeticError") = some false
  k_Halted : PySem.W.keepIn K (.ref cc.Halted) = true
  o_Halted : AexC K cc.Halted "ValueError.__new__" [.type "ValueError", .type "Exception", .type "BaseException", .type "object"]
  n_Halted_number : PySem.W.findIn K (.ref cc.Halted) "number" = some none
  n_Halted_answers : PySem.W.findIn K (.ref cc.Halted) "answers" = some none
  eg_Halted : PySem.W.findIn K (.ref cc.Halted) "__getattribute__" = some (some (.builtin "BaseException.__getattribute__"))
  ek_Halted : PySem.W.findIn K (.ref cc.Halted) "__getattr__" = some none
  ed_Halted : PySem.W.hasDictIn K cc.Halted = true
  b_Halted : PySem.W.subIn K (.ref cc.Halted) (.type "BaseException") = some true
  t_Halted : PySem.W.typeIn K (.ref cc.Halted) = some (.type "type")
  ea_Halted : PySem.W.findIn K (.ref cc.Halted) "__class__" = some (some (.builtin "object.__class__"))
  em_Halted : PySem.W.mroIn K cc.Halted (.type "object") = some true
  ki_Halted_NoNumber : PySem.W.kitOne K (.ref cc.Halted) (.ref cc.NoNumber) = some false
  ki_Halted_NoPlace : PySem.W.kitOne K (.ref cc.Halted) (.ref cc.NoPlace) = some false
  ki_Halted_NoOrder : PySem.W.kitOne K (.ref cc.Halted) (.ref cc.NoOrder) = some false
  ki_Halted_NoPattern : PySem.W.kitOne K (.ref cc.Halted) (.ref cc.NoPattern) = some false
  ki_Halted_NoLetter : PySem.W.kitOne K (.ref cc.Halted) (.ref cc.NoLetter) = some false
  ki_Halted_NoTicket : PySem.W.kitOne K (.ref cc.Halted) (.ref cc.NoTicket) = some false
  ki_Halted_NoSize : PySem.W.kitOne K (.ref cc.Halted) (.ref cc.NoSize) = some false
  ki_Halted_NoEnd : PySem.W.kitOne K (.ref cc.Halted) (.ref cc.NoEnd) = some false
  ki_Halted_NoDeed : PySem.W.kitOne K (.ref cc.Halted) (.ref cc.NoDeed) = some false
  ki_Halted_NoText : PySem.W.kitOne K (.ref cc.Halted) (.ref cc.NoText) = some false
  ki_Halted_NoRow : PySem.W.kitOne K (.ref cc.Halted) (.ref cc.NoRow) = some false
  ki_Halted_NoForm : PySem.W.kitOne K (.ref cc.Halted) (.ref cc.NoForm) = some false
  ki_Halted_Halted : PySem.W.kitOne K (.ref cc.Halted) (.ref cc.Halted) = some true
  ki_Halted_NoBack : PySem.W.kitOne K (.ref cc.Halted) (.ref cc.NoBack) = some false
  ki_Halted_NoSuch : PySem.W.kitOne K (.ref cc.Halted) (.ref cc.NoSuch) = some false
  ki_Halted_NoStream : PySem.W.kitOne K (.ref cc.Halted) (.ref cc.NoStream) = some false
  ki_Halted_Busy : PySem.W.kitOne K (.ref cc.Halted) (.ref cc.Busy) = some false
  ki_Halted_Taken : PySem.W.kitOne K (.ref cc.Halted) (.ref cc.Taken) = some false
  ki_Halted_Same : PySem.W.kitOne K (.ref cc.Halted) (.ref cc.Same) = some false
  ki_Halted_Spent : PySem.W.kitOne K (.ref cc.Halted) (.ref cc.Spent) = some false
  ki_Halted_Twice : PySem.W.kitOne K (.ref cc.Halted) (.ref cc.Twice) = some false
  ki_Halted_TooMany : PySem.W.kitOne K (.ref cc.Halted) (.ref cc.TooMany) = some false
  ki_Halted_RowsError : PySem.W.kitOne K (.ref cc.Halted) (.ref cc.RowsError) = some true
  ki_Halted_Absent : PySem.W.kitOne K (.ref cc.Halted) (.ref cc.Absent) = some false
  ki_Halted_Barred : PySem.W.kitOne K (.ref cc.Halted) (.ref cc.Barred) = some false
  ki_Halted_ValueError : PySem.W.kitOne K (.ref cc.Halted) (.type "ValueError") = some true
  ki_Halted_LookupError : PySem.W.kitOne K (.ref cc.Halted) (.type "LookupError") = some false
  ki_Halted_RuntimeError : PySem.W.kitOne K (.ref cc.Halted) (.type "RuntimeError") = some false
  ki_Halted_ArithmeticError : PySem.W.kitOne K (.ref cc.Halted) (.type "ArithmeticError") = some false
  k_NoBack : PySem.W.keepIn K (.ref cc.NoBack) = true
  x_NoBack : PySem.W.excIn K cc.NoBack [.type "LookupError", .type "Exception", .type "BaseException", .type "object"] "LookupError.__new__" = true
  b_NoBack : PySem.W.subIn K (.ref cc.NoBack) (.type "BaseException") = some true
  t_NoBack : PySem.W.typeIn K (.ref cc.NoBack) = some (.type "type")
  eg_NoBack : PySem.W.findIn K (.ref cc.NoBack) "__getattribute__" = some (some (.builtin "BaseException.__getattribute__"))
  ek_NoBack : PySem.W.findIn K (.ref cc.NoBack) "__getattr__" = some none
  ed_NoBack : PySem.W.hasDictIn K cc.NoBack = true
  ea_NoBack : PySem.W.findIn K (.ref cc.NoBack) "__class__" = some (some (.builtin "object.__class__"))
  em_NoBack : PySem.W.mroIn K cc.NoBack (.type "object") = some true
  ki_NoBack_NoNumber : PySem.W.kitOne K (.ref cc.NoBack) (.ref cc.NoNumber) = some false
  ki_NoBack_NoPlace : PySem.W.kitOne K (.ref cc.NoBack) (.ref cc.NoPlace) = some false
  ki_NoBack_NoOrder : PySem.W.kitOne K (.ref cc.NoBack) (.ref cc.NoOrder) = some false
  ki_NoBack_NoPattern : PySem.W.kitOne K (.ref cc.NoBack) (.ref cc.NoPattern) = some false
  ki_NoBack_NoLetter : PySem.W.kitOne K (.ref cc.NoBack) (.ref cc.NoLetter) = some false
  ki_NoBack_NoTicket : PySem.W.kitOne K (.ref cc.NoBack) (.ref cc.NoTicket) = some false
  ki_NoBack_NoSize : PySem.W.kitOne K (.ref cc.NoBack) (.ref cc.NoSize) = some false
  ki_NoBack_NoEnd : PySem.W.kitOne K (.ref cc.NoBack) (.ref cc.NoEnd) = some false
  ki_NoBack_NoDeed : PySem.W.kitOne K (.ref cc.NoBack) (.ref cc.NoDeed) = some false
  ki_NoBack_NoText : PySem.W.kitOne K (.ref cc.NoBack) (.ref cc.NoText) = some false
  ki_NoBack_NoRow : PySem.W.kitOne K (.ref cc.NoBack) (.ref cc.NoRow) = some false
  ki_NoBack_NoForm : PySem.W.kitOne K (.ref cc.NoBack) (.ref cc.NoForm) = some false
  ki_NoBack_Halted : PySem.W.kitOne K (.ref cc.NoBack) (.ref cc.Halted) = some false
  ki_NoBack_NoBack : PySem.W.kitOne K (.ref cc.NoBack) (.ref cc.NoBack) = some true
  ki_NoBack_NoSuch : PySem.W.kitOne K (.ref cc.NoBack) (.ref cc.NoSuch) = some false
  ki_NoBack_NoStream : PySem.W.kitOne K (.ref cc.NoBack) (.ref cc.NoStream) = some false
  ki_NoBack_Busy : PySem.W.kitOne K (.ref cc.NoBack) (.ref cc.Busy) = some false
  ki_NoBack_Taken : PySem.W.kitOne K (.ref cc.NoBack) (.ref cc.Taken) = some false
  ki_NoBack_Same : PySem.W.kitOne K (.ref cc.NoBack) (.ref cc.Same) = some false
  ki_NoBack_Spent : PySem.W.kitOne K (.ref cc.NoBack) (.ref cc.Spent) = some false
  ki_NoBack_Twice : PySem.W.kitOne K (.ref cc.NoBack) (.ref cc.Twice) = some false
  ki_NoBack_TooMany : PySem.W.kitOne K (.ref cc.NoBack) (.ref cc.TooMany) = some false
  ki_NoBack_RowsError : PySem.W.kitOne K (.ref cc.NoBack) (.ref cc.RowsError) = some false
  ki_NoBack_Absent : PySem.W.kitOne K (.ref cc.NoBack) (.ref cc.Absent) = some true
  ki_NoBack_Barred : PySem.W.kitOne K (.ref cc.NoBack) (.ref cc.Barred) = some false
  ki_NoBack_ValueError : PySem.W.kitOne K (.ref cc.NoBack) (.type "ValueError") = some false
  ki_NoBack_LookupError : PySem.W.kitOne K (.ref cc.NoBack) (.type "LookupError") = some true
  ki_NoBack_RuntimeError : PySem.W.kitOne K (.ref cc.NoBack) (.type "RuntimeError") = some false
  ki_NoBack_ArithmeticError : PySem.W.kitOne K (.ref cc.NoBack) (.type "ArithmeticError") = some false
  k_NoSuch : PySem.W.keepIn K (.ref cc.NoSuch) = true
  o_NoSuch : AexC K cc.NoSuch "LookupError.__new__" [.type "LookupError", .type "Exception", .type "BaseException", .type "object"]
  n_NoSuch_name : PySem.W.findIn K (.ref cc.NoSuch) "name" = some none
  sg_Absent : PySem.W.specialIn K (.ref cc.Absent) "__getattribute__" = some (some (.builtin "type.__getattribute__"))
  rd_Absent : PySem.W.readsIn K cc.Absent (.type "type") = true
  fv_Absent : PySem.W.findCls K (.ref cc.Absent) (.type "type") "__init__" = some (.val (.builtin "LookupError.__init__"))
  eg_NoSuch : PySem.W.findIn K (.ref cc.NoSuch) "__getattribute__" = some (some (.builtin "BaseException.__getattribute__"))
  ek_NoSuch : PySem.W.findIn K (.ref cc.NoSuch) "__getattr__" = some none
  ed_NoSuch : PySem.W.hasDictIn K cc.NoSuch = true
  b_NoSuch : PySem.W.subIn K (.ref cc.NoSuch) (.type "BaseException") = some true
  t_NoSuch : PySem.W.typeIn K (.ref cc.NoSuch) = some (.type "type")
  ea_NoSuch : PySem.W.findIn K (.ref cc.NoSuch) "__class__" = some (some (.builtin "object.__class__"))
  em_NoSuch : PySem.W.mroIn K cc.NoSuch (.type "object") = some true
  ki_NoSuch_NoNumber : PySem.W.kitOne K (.ref cc.NoSuch) (.ref cc.NoNumber) = some false
  ki_NoSuch_NoPlace : PySem.W.kitOne K (.ref cc.NoSuch) (.ref cc.NoPlace) = some false
  ki_NoSuch_NoOrder : PySem.W.kitOne K (.ref cc.NoSuch) (.ref cc.NoOrder) = some false
  ki_NoSuch_NoPattern : PySem.W.kitOne K (.ref cc.NoSuch) (.ref cc.NoPattern) = some false
  ki_NoSuch_NoLetter : PySem.W.kitOne K (.ref cc.NoSuch) (.ref cc.NoLetter) = some false
  ki_NoSuch_NoTicket : PySem.W.kitOne K (.ref cc.NoSuch) (.ref cc.NoTicket) = some false
  ki_NoSuch_NoSize : PySem.W.kitOne K (.ref cc.NoSuch) (.ref cc.NoSize) = some false
  ki_NoSuch_NoEnd : PySem.W.kitOne K (.ref cc.NoSuch) (.ref cc.NoEnd) = some false
  ki_NoSuch_NoDeed : PySem.W.kitOne K (.ref cc.NoSuch) (.ref cc.NoDeed) = some false
  ki_NoSuch_NoText : PySem.W.kitOne K (.ref cc.NoSuch) (.ref cc.NoText) = some false
  ki_NoSuch_NoRow : PySem.W.kitOne K (.ref cc.NoSuch) (.ref cc.NoRow) = some false
  ki_NoSuch_NoForm : PySem.W.kitOne K (.ref cc.NoSuch) (.ref cc.NoForm) = some false
  ki_NoSuch_Halted : PySem.W.kitOne K (.ref cc.NoSuch) (.ref cc.Halted) = some false
  ki_NoSuch_NoBack : PySem.W.kitOne K (.ref cc.NoSuch) (.ref cc.NoBack) = some false
  ki_NoSuch_NoSuch : PySem.W.kitOne K (.ref cc.NoSuch) (.ref cc.NoSuch) = some true
  ki_NoSuch_NoStream : PySem.W.kitOne K (.ref cc.NoSuch) (.ref cc.NoStream) = some false
  ki_NoSuch_Busy : PySem.W.kitOne K (.ref cc.NoSuch) (.ref cc.Busy) = some false
  ki_NoSuch_Taken : PySem.W.kitOne K (.ref cc.NoSuch) (.ref cc.Taken) = some false
  ki_NoSuch_Same : PySem.W.kitOne K (.ref cc.NoSuch) (.ref cc.Same) = some false
  ki_NoSuch_Spent : PySem.W.kitOne K (.ref cc.NoSuch) (.ref cc.Spent) = some false
  ki_NoSuch_Twice : PySem.W.kitOne K (.ref cc.NoSuch) (.ref cc.Twice) = some false
  ki_NoSuch_TooMany : PySem.W.kitOne K (.ref cc.NoSuch) (.ref cc.TooMany) = some false
  ki_NoSuch_RowsError : PySem.W.kitOne K (.ref cc.NoSuch) (.ref cc.RowsError) = some false
  ki_NoSuch_Absent : PySem.W.kitOne K (.ref cc.NoSuch) (.ref cc.Absent) = some true
  ki_NoSuch_Barred : PySem.W.kitOne K (.ref cc.NoSuch) (.ref cc.Barred) = some false
  ki_NoSuch_ValueError : PySem.W.kitOne K (.ref cc.NoSuch) (.type "ValueError") = some false
  ki_NoSuch_LookupError : PySem.W.kitOne K (.ref cc.NoSuch) (.type "LookupError") = some true
  ki_NoSuch_RuntimeError : PySem.W.kitOne K (.ref cc.NoSuch) (.type "RuntimeError") = some false
  ki_NoSuch_ArithmeticError : PySem.W.kitOne K (.ref cc.NoSuch) (.type "ArithmeticError") = some false
  k_NoStream : PySem.W.keepIn K (.ref cc.NoStream) = true
  o_NoStream : AexC K cc.NoStream "LookupError.__new__" [.type "LookupError", .type "Exception", .type "BaseException", .type "object"]
  n_NoStream_letter : PySem.W.findIn K (.ref cc.NoStream) "letter" = some none
  eg_NoStream : PySem.W.findIn K (.ref cc.NoStream) "__getattribute__" = some (some (.builtin "BaseException.__getattribute__"))
  ek_NoStream : PySem.W.findIn K (.ref cc.NoStream) "__getattr__" = some none
  ed_NoStream : PySem.W.hasDictIn K cc.NoStream = true
  b_NoStream : PySem.W.subIn K (.ref cc.NoStream) (.type "BaseException") = some true
  t_NoStream : PySem.W.typeIn K (.ref cc.NoStream) = some (.type "type")
  ea_NoStream : PySem.W.findIn K (.ref cc.NoStream) "__class__" = some (some (.builtin "object.__class__"))
  em_NoStream : PySem.W.mroIn K cc.NoStream (.type "object") = some true
  ki_NoStream_NoNumber : PySem.W.kitOne K (.ref cc.NoStream) (.ref cc.NoNumber) = some false
  ki_NoStream_NoPlace : PySem.W.kitOne K (.ref cc.NoStream) (.ref cc.NoPlace) = some false
  ki_NoStream_NoOrder : PySem.W.kitOne K (.ref cc.NoStream) (.ref cc.NoOrder) = some false
  ki_NoStream_NoPattern : PySem.W.kitOne K (.ref cc.NoStream) (.ref cc.NoPattern) = some false
  ki_NoStream_NoLetter : PySem.W.kitOne K (.ref cc.NoStream) (.ref cc.NoLetter) = some false
  ki_NoStream_NoTicket : PySem.W.kitOne K (.ref cc.NoStream) (.ref cc.NoTicket) = some false
  ki_NoStream_NoSize : PySem.W.kitOne K (.ref cc.NoStream) (.ref cc.NoSize) = some false
  ki_NoStream_NoEnd : PySem.W.kitOne K (.ref cc.NoStream) (.ref cc.NoEnd) = some false
  ki_NoStream_NoDeed : PySem.W.kitOne K (.ref cc.NoStream) (.ref cc.NoDeed) = some false
  ki_NoStream_NoText : PySem.W.kitOne K (.ref cc.NoStream) (.ref cc.NoText) = some false
  ki_NoStream_NoRow : PySem.W.kitOne K (.ref cc.NoStream) (.ref cc.NoRow) = some false
  ki_NoStream_NoForm : PySem.W.kitOne K (.ref cc.NoStream) (.ref cc.NoForm) = some false
  ki_NoStream_Halted : PySem.W.kitOne K (.ref cc.NoStream) (.ref cc.Halted) = some false
  ki_NoStream_NoBack : PySem.W.kitOne K (.ref cc.NoStream) (.ref cc.NoBack) = some false
  ki_NoStream_NoSuch : PySem.W.kitOne K (.ref cc.NoStream) (.ref cc.NoSuch) = some false
  ki_NoStream_NoStream : PySem.W.kitOne K (.ref cc.NoStream) (.ref cc.NoStream) = some true
  ki_NoStream_Busy : PySem.W.kitOne K (.ref cc.NoStream) (.ref cc.Busy) = some false
  ki_NoStream_Taken : PySem.W.kitOne K (.ref cc.NoStream) (.ref cc.Taken) = some false
  ki_NoStream_Same : PySem.W.kitOne K (.ref cc.NoStream) (.ref cc.Same) = some false
  ki_NoStream_Spent : PySem.W.kitOne K (.ref cc.NoStream) (.ref cc.Spent) = some false
  ki_NoStream_Twice : PySem.W.kitOne K (.ref cc.NoStream) (.ref cc.Twice) = some false
  ki_NoStream_TooMany : PySem.W.kitOne K (.ref cc.NoStream) (.ref cc.TooMany) = some false
  ki_NoStream_RowsError : PySem.W.kitOne K (.ref cc.NoStream) (.ref cc.RowsError) = some false
  ki_NoStream_Absent : PySem.W.kitOne K (.ref cc.NoStream) (.ref cc.Absent) = some true
  ki_NoStream_Barred : PySem.W.kitOne K (.ref cc.NoStream) (.ref cc.Barred) = some false
  ki_NoStream_ValueError : PySem.W.kitOne K (.ref cc.NoStream) (.type "ValueError") = some false
  ki_NoStream_LookupError : PySem.W.kitOne K (.ref cc.NoStream) (.type "LookupError") = some true
  ki_NoStream_RuntimeError : PySem.W.kitOne K (.ref cc.NoStream) (.type "RuntimeError") = some false
  ki_NoStream_ArithmeticError : PySem.W.kitOne K (.ref cc.NoStream) (.type "ArithmeticError") = some false
  k_Busy : PySem.W.keepIn K (.ref cc.Busy) = true
  x_Busy : PySem.W.excIn K cc.Busy [.type "RuntimeError", .type "Exception", .type "BaseException", .type "object"] "RuntimeError.__new__" = true
  b_Busy : PySem.W.subIn K (.ref cc.Busy) (.type "BaseException") = some true
  t_Busy : PySem.W.typeIn K (.ref cc.Busy) = some (.type "type")
  eg_Busy : PySem.W.findIn K (.ref cc.Busy) "__getattribute__" = some (some (.builtin "BaseException.__getattribute__"))
  ek_Busy : PySem.W.findIn K (.ref cc.Busy) "__getattr__" = some none
  ed_Busy : PySem.W.hasDictIn K cc.Busy = true
  ea_Busy : PySem.W.findIn K (.ref cc.Busy) "__class__" = some (some (.builtin "object.__class__"))
  em_Busy : PySem.W.mroIn K cc.Busy (.type "object") = some true
  ki_Busy_NoNumber : PySem.W.kitOne K (.ref cc.Busy) (.ref cc.NoNumber) = some false
  ki_Busy_NoPlace : PySem.W.kitOne K (.ref cc.Busy) (.ref cc.NoPlace) = some false
  ki_Busy_NoOrder : PySem.W.kitOne K (.ref cc.Busy) (.ref cc.NoOrder) = some false
  ki_Busy_NoPattern : PySem.W.kitOne K (.ref cc.Busy) (.ref cc.NoPattern) = some false
  ki_Busy_NoLetter : PySem.W.kitOne K (.ref cc.Busy) (.ref cc.NoLetter) = some false
  ki_Busy_NoTicket : PySem.W.kitOne K (.ref cc.Busy) (.ref cc.NoTicket) = some false
  ki_Busy_NoSize : PySem.W.kitOne K (.ref cc.Busy) (.ref cc.NoSize) = some false
  ki_Busy_NoEnd : PySem.W.kitOne K (.ref cc.Busy) (.ref cc.NoEnd) = some false
  ki_Busy_NoDeed : PySem.W.kitOne K (.ref cc.Busy) (.ref cc.NoDeed) = some false
  ki_Busy_NoText : PySem.W.kitOne K (.ref cc.Busy) (.ref cc.NoText) = some false
  ki_Busy_NoRow : PySem.W.kitOne K (.ref cc.Busy) (.ref cc.NoRow) = some false
  ki_Busy_NoForm : PySem.W.kitOne K (.ref cc.Busy) (.ref cc.NoForm) = some false
  ki_Busy_Halted : PySem.W.kitOne K (.ref cc.Busy) (.ref cc.Halted) = some false
  ki_Busy_NoBack : PySem.W.kitOne K (.ref cc.Busy) (.ref cc.NoBack) = some false
  ki_Busy_NoSuch : PySem.W.kitOne K (.ref cc.Busy) (.ref cc.NoSuch) = some false
  ki_Busy_NoStream : PySem.W.kitOne K (.ref cc.Busy) (.ref cc.NoStream) = some false
  ki_Busy_Busy : PySem.W.kitOne K (.ref cc.Busy) (.ref cc.Busy) = some true
  ki_Busy_Taken : PySem.W.kitOne K (.ref cc.Busy) (.ref cc.Taken) = some false
  ki_Busy_Same : PySem.W.kitOne K (.ref cc.Busy) (.ref cc.Same) = some false
  ki_Busy_Spent : PySem.W.kitOne K (.ref cc.Busy) (.ref cc.Spent) = some false
  ki_Busy_Twice : PySem.W.kitOne K (.ref cc.Busy) (.ref cc.Twice) = some false
  ki_Busy_TooMany : PySem.W.kitOne K (.ref cc.Busy) (.ref cc.TooMany) = some false
  ki_Busy_RowsError : PySem.W.kitOne K (.ref cc.Busy) (.ref cc.RowsError) = some false
  ki_Busy_Absent : PySem.W.kitOne K (.ref cc.Busy) (.ref cc.Absent) = some false
  ki_Busy_Barred : PySem.W.kitOne K (.ref cc.Busy) (.ref cc.Barred) = some true
  ki_Busy_ValueError : PySem.W.kitOne K (.ref cc.Busy) (.type "ValueError") = some false
  ki_Busy_LookupError : PySem.W.kitOne K (.ref cc.Busy) (.type "LookupError") = some false
  ki_Busy_RuntimeError : PySem.W.kitOne K (.ref cc.Busy) (.type "RuntimeError") = some true
  ki_Busy_ArithmeticError : PySem.W.kitOne K (.ref cc.Busy) (.type "ArithmeticError") = some false
  k_Taken : PySem.W.keepIn K (.ref cc.Taken) = true
  o_Taken : AexC K cc.Taken "RuntimeError.__new__" [.type "RuntimeError", .type "Exception", .type "BaseException", .type "object"]
  n_Taken_name : PySem.W.findIn K (.ref cc.Taken) "name" = some none
  sg_Barred : PySem.W.specialIn K (.ref cc.Barred) "__getattribute__" = some (some (.builtin "type.__getattribute__"))
  rd_Barred : PySem.W.readsIn K cc.Barred (.type "type") = true
  fv_Barred : PySem.W.findCls K (.ref cc.Barred) (.type "type") "__init__" = some (.val (.builtin "RuntimeError.__init__"))
  eg_Taken : PySem.W.findIn K (.ref cc.Taken) "__getattribute__" = some (some (.builtin "BaseException.__getattribute__"))
  ek_Taken : PySem.W.findIn K (.ref cc.Taken) "__getattr__" = some none
  ed_Taken : PySem.W.hasDictIn K cc.Taken = true
  b_Taken : PySem.W.subIn K (.ref cc.Taken) (.type "BaseException") = some true
  t_Taken : PySem.W.typeIn K (.ref cc.Taken) = some (.type "type")
  ea_Taken : PySem.W.findIn K (.ref cc.Taken) "__class__" = some (some (.builtin "object.__class__"))
  em_Taken : PySem.W.mroIn K cc.Taken (.type "object") = some true
  ki_Taken_NoNumber : PySem.W.kitOne K (.ref cc.Taken) (.ref cc.NoNumber) = some false
  ki_Taken_NoPlace : PySem.W.kitOne K (.ref cc.Taken) (.ref cc.NoPlace) = some false
  ki_Taken_NoOrder : PySem.W.kitOne K (.ref cc.Taken) (.ref cc.NoOrder) = some false
  ki_Taken_NoPattern : PySem.W.kitOne K (.ref cc.Taken) (.ref cc.NoPattern) = some false
  ki_Taken_NoLetter : PySem.W.kitOne K (.ref cc.Taken) (.ref cc.NoLetter) = some false
  ki_Taken_NoTicket : PySem.W.kitOne K (.ref cc.Taken) (.ref cc.NoTicket) = some false
  ki_Taken_NoSize : PySem.W.kitOne K (.ref cc.Taken) (.ref cc.NoSize) = some false
  ki_Taken_NoEnd : PySem.W.kitOne K (.ref cc.Taken) (.ref cc.NoEnd) = some false
  ki_Taken_NoDeed : PySem.W.kitOne K (.ref cc.Taken) (.ref cc.NoDeed) = some false
  ki_Taken_NoText : PySem.W.kitOne K (.ref cc.Taken) (.ref cc.NoText) = some false
  ki_Taken_NoRow : PySem.W.kitOne K (.ref cc.Taken) (.ref cc.NoRow) = some false
  ki_Taken_NoForm : PySem.W.kitOne K (.ref cc.Taken) (.ref cc.NoForm) = some false
  ki_Taken_Halted : PySem.W.kitOne K (.ref cc.Taken) (.ref cc.Halted) = some false
  ki_Taken_NoBack : PySem.W.kitOne K (.ref cc.Taken) (.ref cc.NoBack) = some false
  ki_Taken_NoSuch : PySem.W.kitOne K (.ref cc.Taken) (.ref cc.NoSuch) = some false
  ki_Taken_NoStream : PySem.W.kitOne K (.ref cc.Taken) (.ref cc.NoStream) = some false
  ki_Taken_Busy : PySem.W.kitOne K (.ref cc.Taken) (.ref cc.Busy) = some false
  ki_Taken_Taken : PySem.W.kitOne K (.ref cc.Taken) (.ref cc.Taken) = some true
  ki_Taken_Same : PySem.W.kitOne K (.ref cc.Taken) (.ref cc.Same) = some false
  ki_Taken_Spent : PySem.W.kitOne K (.ref cc.Taken) (.ref cc.Spent) = some false
  ki_Taken_Twice : PySem.W.kitOne K (.ref cc.Taken) (.ref cc.Twice) = some false
  ki_Taken_TooMany : PySem.W.kitOne K (.ref cc.Taken) (.ref cc.TooMany) = some false
  ki_Taken_RowsError : PySem.W.kitOne K (.ref cc.Taken) (.ref cc.RowsError) = some false
  ki_Taken_Absent : PySem.W.kitOne K (.ref cc.Taken) (.ref cc.Absent) = some false
  ki_Taken_Barred : PySem.W.kitOne K (.ref cc.Taken) (.ref cc.Barred) = some true
  ki_Taken_ValueError : PySem.W.kitOne K (.ref cc.Taken) (.type "ValueError") = some false
  ki_Taken_LookupError : PySem.W.kitOne K (.ref cc.Taken) (.type "LookupError") = some false
  ki_Taken_RuntimeError : PySem.W.kitOne K (.ref cc.Taken) (.type "RuntimeError") = some true
  ki_Taken_ArithmeticError : PySem.W.kitOne K (.ref cc.Taken) (.type "ArithmeticError") = some false
  k_Same : PySem.W.keepIn K (.ref cc.Same) = true
  o_Same : AexC K cc.Same "RuntimeError.__new__" [.type "RuntimeError", .type "Exception", .type "BaseException", .type "object"]
  n_Same_name : PySem.W.findIn K (.ref cc.Same) "name" = some none
  eg_Same : PySem.W.findIn K (.ref cc.Same) "__getattribute__" = some (some (.builtin "BaseException.__getattribute__"))
  ek_Same : PySem.W.findIn K (.ref cc.Same) "__getattr__" = some none
  ed_Same : PySem.W.hasDictIn K cc.Same = true
  b_Same : PySem.W.subIn K (.ref cc.Same) (.type "BaseException") = some true
  t_Same : PySem.W.typeIn K (.ref cc.Same) = some (.type "type")
  ea_Same : PySem.W.findIn K (.ref cc.Same) "__class__" = some (some (.builtin "object.__class__"))
  em_Same : PySem.W.mroIn K cc.Same (.type "object") = some true
  ki_Same_NoNumber : PySem.W.kitOne K (.ref cc.Same) (.ref cc.NoNumber) = some false
  ki_Same_NoPlace : PySem.W.kitOne K (.ref cc.Same) (.ref cc.NoPlace) = some false
  ki_Same_NoOrder : PySem.W.kitOne K (.ref cc.Same) (.ref cc.NoOrder) = some false
  ki_Same_NoPattern : PySem.W.kitOne K (.ref cc.Same) (.ref cc.NoPattern) = some false
  ki_Same_NoLetter : PySem.W.kitOne K (.ref cc.Same) (.ref cc.NoLetter) = some false
  ki_Same_NoTicket : PySem.W.kitOne K (.ref cc.Same) (.ref cc.NoTicket) = some false
  ki_Same_NoSize : PySem.W.kitOne K (.ref cc.Same) (.ref cc.NoSize) = some false
  ki_Same_NoEnd : PySem.W.kitOne K (.ref cc.Same) (.ref cc.NoEnd) = some false
  ki_Same_NoDeed : PySem.W.kitOne K (.ref cc.Same) (.ref cc.NoDeed) = some false
  ki_Same_NoText : PySem.W.kitOne K (.ref cc.Same) (.ref cc.NoText) = some false
  ki_Same_NoRow : PySem.W.kitOne K (.ref cc.Same) (.ref cc.NoRow) = some false
  ki_Same_NoForm : PySem.W.kitOne K (.ref cc.Same) (.ref cc.NoForm) = some false
  ki_Same_Halted : PySem.W.kitOne K (.ref cc.Same) (.ref cc.Halted) = some false
  ki_Same_NoBack : PySem.W.kitOne K (.ref cc.Same) (.ref cc.NoBack) = some false
  ki_Same_NoSuch : PySem.W.kitOne K (.ref cc.Same) (.ref cc.NoSuch) = some false
  ki_Same_NoStream : PySem.W.kitOne K (.ref cc.Same) (.ref cc.NoStream) = some false
  ki_Same_Busy : PySem.W.kitOne K (.ref cc.Same) (.ref cc.Busy) = some false
  ki_Same_Taken : PySem.W.kitOne K (.ref cc.Same) (.ref cc.Taken) = some false
  ki_Same_Same : PySem.W.kitOne K (.ref cc.Same) (.ref cc.Same) = some true
  ki_Same_Spent : PySem.W.kitOne K (.ref cc.Same) (.ref cc.Spent) = some false
  ki_Same_Twice : PySem.W.kitOne K (.ref cc.Same) (.ref cc.Twice) = some false
  ki_Same_TooMany : PySem.W.kitOne K (.ref cc.Same) (.ref cc.TooMany) = some false
  ki_Same_RowsError : PySem.W.kitOne K (.ref cc.Same) (.ref cc.RowsError) = some false
  ki_Same_Absent : PySem.W.kitOne K (.ref cc.Same) (.ref cc.Absent) = some false
  ki_Same_Barred : PySem.W.kitOne K (.ref cc.Same) (.ref cc.Barred) = some true
  ki_Same_ValueError : PySem.W.kitOne K (.ref cc.Same) (.type "ValueError") = some false
  ki_Same_LookupError : PySem.W.kitOne K (.ref cc.Same) (.type "LookupError") = some false
  ki_Same_RuntimeError : PySem.W.kitOne K (.ref cc.Same) (.type "RuntimeError") = some true
  ki_Same_ArithmeticError : PySem.W.kitOne K (.ref cc.Same) (.type "ArithmeticError") = some false
  k_Spent : PySem.W.keepIn K (.ref cc.Spent) = true
  o_Spent : AexC K cc.Spent "RuntimeError.__new__" [.type "RuntimeError", .type "Exception", .type "BaseException", .type "object"]
  n_Spent_letter : PySem.W.findIn K (.ref cc.Spent) "letter" = some none
  eg_Spent : PySem.W.findIn K (.ref cc.Spent) "__getattribute__" = some (some (.builtin "BaseException.__getattribute__"))
  ek_Spent : PySem.W.findIn K (.ref cc.Spent) "__getattr__" = some none
  ed_Spent : PySem.W.hasDictIn K cc.Spent = true
  b_Spent : PySem.W.subIn K (.ref cc.Spent) (.type "BaseException") = some true
  t_Spent : PySem.W.typeIn K (.ref cc.Spent) = some (.type "type")
  ea_Spent : PySem.W.findIn K (.ref cc.Spent) "__class__" = some (some (.builtin "object.__class__"))
  em_Spent : PySem.W.mroIn K cc.Spent (.type "object") = some true
  ki_Spent_NoNumber : PySem.W.kitOne K (.ref cc.Spent) (.ref cc.NoNumber) = some false
  ki_Spent_NoPlace : PySem.W.kitOne K (.ref cc.Spent) (.ref cc.NoPlace) = some false
  ki_Spent_NoOrder : PySem.W.kitOne K (.ref cc.Spent) (.ref cc.NoOrder) = some false
  ki_Spent_NoPattern : PySem.W.kitOne K (.ref cc.Spent) (.ref cc.NoPattern) = some false
  ki_Spent_NoLetter : PySem.W.kitOne K (.ref cc.Spent) (.ref cc.NoLetter) = some false
  ki_Spent_NoTicket : PySem.W.kitOne K (.ref cc.Spent) (.ref cc.NoTicket) = some false
  ki_Spent_NoSize : PySem.W.kitOne K (.ref cc.Spent) (.ref cc.NoSize) = some false
  ki_Spent_NoEnd : PySem.W.kitOne K (.ref cc.Spent) (.ref cc.NoEnd) = some false
  ki_Spent_NoDeed : PySem.W.kitOne K (.ref cc.Spent) (.ref cc.NoDeed) = some false
  ki_Spent_NoText : PySem.W.kitOne K (.ref cc.Spent) (.ref cc.NoText) = some false
  ki_Spent_NoRow : PySem.W.kitOne K (.ref cc.Spent) (.ref cc.NoRow) = some false
  ki_Spent_NoForm : PySem.W.kitOne K (.ref cc.Spent) (.ref cc.NoForm) = some false
  ki_Spent_Halted : PySem.W.kitOne K (.ref cc.Spent) (.ref cc.Halted) = some false
  ki_Spent_NoBack : PySem.W.kitOne K (.ref cc.Spent) (.ref cc.NoBack) = some false
  ki_Spent_NoSuch : PySem.W.kitOne K (.ref cc.Spent) (.ref cc.NoSuch) = some false
  ki_Spent_NoStream : PySem.W.kitOne K (.ref cc.Spent) (.ref cc.NoStream) = some false
  ki_Spent_Busy : PySem.W.kitOne K (.ref cc.Spent) (.ref cc.Busy) = some false
  ki_Spent_Taken : PySem.W.kitOne K (.ref cc.Spent) (.ref cc.Taken) = some false
  ki_Spent_Same : PySem.W.kitOne K (.ref cc.Spent) (.ref cc.Same) = some false
  ki_Spent_Spent : PySem.W.kitOne K (.ref cc.Spent) (.ref cc.Spent) = some true
  ki_Spent_Twice : PySem.W.kitOne K (.ref cc.Spent) (.ref cc.Twice) = some false
  ki_Spent_TooMany : PySem.W.kitOne K (.ref cc.Spent) (.ref cc.TooMany) = some false
  ki_Spent_RowsError : PySem.W.kitOne K (.ref cc.Spent) (.ref cc.RowsError) = some false
  ki_Spent_Absent : PySem.W.kitOne K (.ref cc.Spent) (.ref cc.Absent) = some false
  ki_Spent_Barred : PySem.W.kitOne K (.ref cc.Spent) (.ref cc.Barred) = some true
  ki_Spent_ValueError : PySem.W.kitOne K (.ref cc.Spent) (.type "ValueError") = some false
  ki_Spent_LookupError : PySem.W.kitOne K (.ref cc.Spent) (.type "LookupError") = some false
  ki_Spent_RuntimeError : PySem.W.kitOne K (.ref cc.Spent) (.type "RuntimeError") = some true
  ki_Spent_ArithmeticError : PySem.W.kitOne K (.ref cc.Spent) (.type "ArithmeticError") = some false
  k_Twice : PySem.W.keepIn K (.ref cc.Twice) = true
  o_Twice : AexC K cc.Twice "RuntimeError.__new__" [.type "RuntimeError", .type "Exception", .type "BaseException", .type "object"]
  n_Twice_ticket : PySem.W.findIn K (.ref cc.Twice) "ticket" = some none
  eg_Twice : PySem.W.findIn K (.ref cc.Twice) "__getattribute__" = some (some (.builtin "BaseException.__getattribute__"))
  ek_Twice : PySem.W.findIn K (.ref cc.Twice) "__getattr__" = some none
  ed_Twice : PySem.W.hasDictIn K cc.Twice = true
  b_Twice : PySem.W.subIn K (.ref cc.Twice) (.type "BaseException") = some true
  t_Twice : PySem.W.typeIn K (.ref cc.Twice) = some (.type "type")
  ea_Twice : PySem.W.findIn K (.ref cc.Twice) "__class__" = some (some (.builtin "object.__class__"))
  em_Twice : PySem.W.mroIn K cc.Twice (.type "object") = some true
  ki_Twice_NoNumber : PySem.W.kitOne K (.ref cc.Twice) (.ref cc.NoNumber) = some false
  ki_Twice_NoPlace : PySem.W.kitOne K (.ref cc.Twice) (.ref cc.NoPlace) = some false
  ki_Twice_NoOrder : PySem.W.kitOne K (.ref cc.Twice) (.ref cc.NoOrder) = some false
  ki_Twice_NoPattern : PySem.W.kitOne K (.ref cc.Twice) (.ref cc.NoPattern) = some false
  ki_Twice_NoLetter : PySem.W.kitOne K (.ref cc.Twice) (.ref cc.NoLetter) = some false
  ki_Twice_NoTicket : PySem.W.kitOne K (.ref cc.Twice) (.ref cc.NoTicket) = some false
  ki_Twice_NoSize : PySem.W.kitOne K (.ref cc.Twice) (.ref cc.NoSize) = some false
  ki_Twice_NoEnd : PySem.W.kitOne K (.ref cc.Twice) (.ref cc.NoEnd) = some false
  ki_Twice_NoDeed : PySem.W.kitOne K (.ref cc.Twice) (.ref cc.NoDeed) = some false
  ki_Twice_NoText : PySem.W.kitOne K (.ref cc.Twice) (.ref cc.NoText) = some false
  ki_Twice_NoRow : PySem.W.kitOne K (.ref cc.Twice) (.ref cc.NoRow) = some false
  ki_Twice_NoForm : PySem.W.kitOne K (.ref cc.Twice) (.ref cc.NoForm) = some false
  ki_Twice_Halted : PySem.W.kitOne K (.ref cc.Twice) (.ref cc.Halted) = some false
  ki_Twice_NoBack : PySem.W.kitOne K (.ref cc.Twice) (.ref cc.NoBack) = some false
  ki_Twice_NoSuch : PySem.W.kitOne K (.ref cc.Twice) (.ref cc.NoSuch) = some false
  ki_Twice_NoStream : PySem.W.kitOne K (.ref cc.Twice) (.ref cc.NoStream) = some false
  ki_Twice_Busy : PySem.W.kitOne K (.ref cc.Twice) (.ref cc.Busy) = some false
  ki_Twice_Taken : PySem.W.kitOne K (.ref cc.Twice) (.ref cc.Taken) = some false
  ki_Twice_Same : PySem.W.kitOne K (.ref cc.Twice) (.ref cc.Same) = some false
  ki_Twice_Spent : PySem.W.kitOne K (.ref cc.Twice) (.ref cc.Spent) = some false
  ki_Twice_Twice : PySem.W.kitOne K (.ref cc.Twice) (.ref cc.Twice) = some true
  ki_Twice_TooMany : PySem.W.kitOne K (.ref cc.Twice) (.ref cc.TooMany) = some false
  ki_Twice_RowsError : PySem.W.kitOne K (.ref cc.Twice) (.ref cc.RowsError) = some false
  ki_Twice_Absent : PySem.W.kitOne K (.ref cc.Twice) (.ref cc.Absent) = some false
  ki_Twice_Barred : PySem.W.kitOne K (.ref cc.Twice) (.ref cc.Barred) = some true
  ki_Twice_ValueError : PySem.W.kitOne K (.ref cc.Twice) (.type "ValueError") = some false
  ki_Twice_LookupError : PySem.W.kitOne K (.ref cc.Twice) (.type "LookupError") = some false
  ki_Twice_RuntimeError : PySem.W.kitOne K (.ref cc.Twice) (.type "RuntimeError") = some true
  ki_Twice_ArithmeticError : PySem.W.kitOne K (.ref cc.Twice) (.type "ArithmeticError") = some false
  k_TooMany : PySem.W.keepIn K (.ref cc.TooMany) = true
  o_TooMany : AexC K cc.TooMany "ArithmeticError.__new__" [.type "ArithmeticError", .type "Exception", .type "BaseException", .type "object"]
  n_TooMany_tickets : PySem.W.findIn K (.ref cc.TooMany) "tickets" = some none
  n_TooMany_lines : PySem.W.findIn K (.ref cc.TooMany) "lines" = some none
  fv_ArithmeticError : PySem.W.findCls K (.type "ArithmeticError") (.type "type") "__init__" = some (.val (.builtin "ArithmeticError.__init__"))
  eg_TooMany : PySem.W.findIn K (.ref cc.TooMany) "__getattribute__" = some (some (.builtin "BaseException.__getattribute__"))
  ek_TooMany : PySem.W.findIn K (.ref cc.TooMany) "__getattr__" = some none
  ed_TooMany : PySem.W.hasDictIn K cc.TooMany = true
  b_TooMany : PySem.W.subIn K (.ref cc.TooMany) (.type "BaseException") = some true
  t_TooMany : PySem.W.typeIn K (.ref cc.TooMany) = some (.type "type")
  ea_TooMany : PySem.W.findIn K (.ref cc.TooMany) "__class__" = some (some (.builtin "object.__class__"))
  em_TooMany : PySem.W.mroIn K cc.TooMany (.type "object") = some true
  ki_TooMany_NoNumber : PySem.W.kitOne K (.ref cc.TooMany) (.ref cc.NoNumber) = some false
  ki_TooMany_NoPlace : PySem.W.kitOne K (.ref cc.TooMany) (.ref cc.NoPlace) = some false
  ki_TooMany_NoOrder : PySem.W.kitOne K (.ref cc.TooMany) (.ref cc.NoOrder) = some false
  ki_TooMany_NoPattern : PySem.W.kitOne K (.ref cc.TooMany) (.ref cc.NoPattern) = some false
  ki_TooMany_NoLetter : PySem.W.kitOne K (.ref cc.TooMany) (.ref cc.NoLetter) = some false
  ki_TooMany_NoTicket : PySem.W.kitOne K (.ref cc.TooMany) (.ref cc.NoTicket) = some false
  ki_TooMany_NoSize : PySem.W.kitOne K (.ref cc.TooMany) (.ref cc.NoSize) = some false
  ki_TooMany_NoEnd : PySem.W.kitOne K (.ref cc.TooMany) (.ref cc.NoEnd) = some false
  ki_TooMany_NoDeed : PySem.W.kitOne K (.ref cc.TooMany) (.ref cc.NoDeed) = some false
  ki_TooMany_NoText : PySem.W.kitOne K (.ref cc.TooMany) (.ref cc.NoText) = some false
  ki_TooMany_NoRow : PySem.W.kitOne K (.ref cc.TooMany) (.ref cc.NoRow) = some false
  ki_TooMany_NoForm : PySem.W.kitOne K (.ref cc.TooMany) (.ref cc.NoForm) = some false
  ki_TooMany_Halted : PySem.W.kitOne K (.ref cc.TooMany) (.ref cc.Halted) = some false
  ki_TooMany_NoBack : PySem.W.kitOne K (.ref cc.TooMany) (.ref cc.NoBack) = some false
  ki_TooMany_NoSuch : PySem.W.kitOne K (.ref cc.TooMany) (.ref cc.NoSuch) = some false
  ki_TooMany_NoStream : PySem.W.kitOne K (.ref cc.TooMany) (.ref cc.NoStream) = some false
  ki_TooMany_Busy : PySem.W.kitOne K (.ref cc.TooMany) (.ref cc.Busy) = some false
  ki_TooMany_Taken : PySem.W.kitOne K (.ref cc.TooMany) (.ref cc.Taken) = some false
  ki_TooMany_Same : PySem.W.kitOne K (.ref cc.TooMany) (.ref cc.Same) = some false
  ki_TooMany_Spent : PySem.W.kitOne K (.ref cc.TooMany) (.ref cc.Spent) = some false
  ki_TooMany_Twice : PySem.W.kitOne K (.ref cc.TooMany) (.ref cc.Twice) = some false
  ki_TooMany_TooMany : PySem.W.kitOne K (.ref cc.TooMany) (.ref cc.TooMany) = some true
  ki_TooMany_RowsError : PySem.W.kitOne K (.ref cc.TooMany) (.ref cc.RowsError) = some false
  ki_TooMany_Absent : PySem.W.kitOne K (.ref cc.TooMany) (.ref cc.Absent) = some false
  ki_TooMany_Barred : PySem.W.kitOne K (.ref cc.TooMany) (.ref cc.Barred) = some false
  ki_TooMany_ValueError : PySem.W.kitOne K (.ref cc.TooMany) (.type "ValueError") = some false
  ki_TooMany_LookupError : PySem.W.kitOne K (.ref cc.TooMany) (.type "LookupError") = some false
  ki_TooMany_RuntimeError : PySem.W.kitOne K (.ref cc.TooMany) (.type "RuntimeError") = some false
  ki_TooMany_ArithmeticError : PySem.W.kitOne K (.ref cc.TooMany) (.type "ArithmeticError") = some true
  en_ : PySem.W.specialIn K (.builtin "object.__class__") "__get__" = some (some (.builtin "getset_descriptor.__get__"))
  et_ : PySem.W.takesIn K (.builtin "object.__class__") = some true
theorem xc_all {K : PySem.W.Frag} {mg : Str → Option Value} {cc : Cl} (ce : Ce K mg cc) : ∀ k C ns, k < 22 → (GG K cc).cls k = some (C, ns) → ExcC K C
  | 0, C, ns, _, h1 => by
    cases h1
    exact ⟨ce.eg_NoNumber, ce.ek_NoNumber, ce.b_NoNumber, ce.ed_NoNumber, ce.ea_NoNumber, ce.en_, ce.et_, ce.em_NoNumber⟩
  | 1, C, ns, _, h1 => by
    cases h1
    exact ⟨ce.eg_NoPlace, ce.ek_NoPlace, ce.b_NoPlace, ce.ed_NoPlace, ce.ea_NoPlace, ce.en_, ce.et_, ce.em_NoPlace⟩
  | 2, C, ns, _, h1 => by
    cases h1
    exact ⟨ce.eg_NoOrder, ce.ek_NoOrder, ce.b_NoOrder, ce.ed_NoOrder, ce.ea_NoOrder, ce.en_, ce.et_, ce.em_NoOrder⟩
  | 3, C, ns, _, h1 => by
    cases h1
    exact ⟨ce.eg_NoPattern, ce.ek_NoPattern, ce.b_NoPattern, ce.ed_NoPattern, ce.ea_NoPattern, ce.en_, ce.et_, ce.em_NoPattern⟩
  | 4, C, ns, _, h1 => by
    cases h1
    exact ⟨ce.eg_NoLetter, ce.ek_NoLetter, ce.b_NoLetter, ce.ed_NoLetter, ce.ea_NoLetter, ce.en_, ce.et_, ce.em_NoLetter⟩
  | 5, C, ns, _, h1 => by
    cases h1
    exact ⟨ce.eg_NoTicket, ce.ek_NoTicket, ce.b_NoTicket, ce.ed_NoTicket, ce.ea_NoTicket, ce.en_, ce.et_, ce.em_NoTicket⟩
  | 6, C, ns, _, h1 => by
    cases h1
    exact ⟨ce.eg_NoSize, ce.ek_NoSize, ce.b_NoSize, ce.ed_NoSize, ce.ea_NoSize, ce.en_, ce.et_, ce.em_NoSize⟩
  | 7, C, ns, _, h1 => by
    cases h1
    exact ⟨ce.eg_NoEnd, ce.ek_NoEnd, ce.b_NoEnd, ce.ed_NoEnd, ce.ea_NoEnd, ce.en_, ce.et_, ce.em_NoEnd⟩
  | 8, C, ns, _, h1 => by
    cases h1
    exact ⟨ce.eg_NoDeed, ce.ek_NoDeed, ce.b_NoDeed, ce.ed_NoDeed, ce.ea_NoDeed, ce.en_, ce.et_, ce.em_NoDeed⟩
  | 9, C, ns, _, h1 => by
    cases h1
    exact ⟨ce.eg_NoText, ce.ek_NoText, ce.b_NoText, ce.ed_NoText, ce.ea_NoText, ce.en_, ce.et_, ce.em_NoText⟩
  | 10, C, ns, _, h1 => by
    cases h1
    exact ⟨ce.eg_NoRow, ce.ek_NoRow, ce.b_NoRow, ce.ed_NoRow, ce.ea_NoRow, ce.en_, ce.et_, ce.em_NoRow⟩
  | 11, C, ns, _, h1 => by
    cases h1
    exact ⟨ce.eg_NoForm, ce.ek_NoForm, ce.b_NoForm, ce.ed_NoForm, ce.ea_NoForm, ce.en_, ce.et_, ce.em_NoForm⟩
  | 12, C, ns, _, h1 => by
    cases h1
    exact ⟨ce.eg_Halted, ce.ek_Halted, ce.b_Halted, ce.ed_Halted, ce.ea_Halted, ce.en_, ce.et_, ce.em_Halted⟩
  | 13, C, ns, _, h1 => by
    cases h1
    exact ⟨ce.eg_NoBack, ce.ek_NoBack, ce.b_NoBack, ce.ed_NoBack, ce.ea_NoBack, ce.en_, ce.et_, ce.em_NoBack⟩
  | 14, C, ns, _, h1 => by
    cases h1
    exact ⟨ce.eg_NoSuch, ce.ek_NoSuch, ce.b_NoSuch, ce.ed_NoSuch, ce.ea_NoSuch, ce.en_, ce.et_, ce.em_NoSuch⟩
  | 15, C, ns, _, h1 => by
    cases h1
    exact ⟨ce.eg_NoStream, ce.ek_NoStream, ce.b_NoStream, ce.ed_NoStream, ce.ea_NoStream, ce.en_, ce.et_, ce.em_NoStream⟩
  | 16, C, ns, _, h1 => by
    cases h1
    exact ⟨ce.eg_Busy, ce.ek_Busy, ce.b_Busy, ce.ed_Busy, ce.ea_Busy, ce.en_, ce.et_, ce.em_Busy⟩
  | 17, C, ns, _, h1 => by
    cases h1
    exact ⟨ce.eg_Taken, ce.ek_Taken, ce.b_Taken, ce.ed_Taken, ce.ea_Taken, ce.en_, ce.et_, ce.em_Taken⟩
  | 18, C, ns, _, h1 => by
    cases h1
    exact ⟨ce.eg_Same, ce.ek_Same, ce.b_Same, ce.ed_Same, ce.ea_Same, ce.en_, ce.et_, ce.em_Same⟩
  | 19, C, ns, _, h1 => by
    cases h1
    exact ⟨ce.eg_Spent, ce.ek_Spent, ce.b_Spent, ce.ed_Spent, ce.ea_Spent, ce.en_, ce.et_, ce.em_Spent⟩
  | 20, C, ns, _, h1 => by
    cases h1
    exact ⟨ce.eg_Twice, ce.ek_Twice, ce.b_Twice, ce.ed_Twice, ce.ea_Twice, ce.en_, ce.et_, ce.em_Twice⟩
  | 21, C, ns, _, h1 => by
    cases h1
    exact ⟨ce.eg_TooMany, ce.ek_TooMany, ce.b_TooMany, ce.ed_TooMany, ce.ea_TooMany, ce.en_, ce.et_, ce.em_TooMany⟩
  | n + 22, C, ns, h1, _ => by omega
theorem kl_NoNumber : ∀ k b, mki_NoNumber k = some b → k < 22
  | 0, _, _ => by decide
  | 1, _, _ => by decide
  | 2, _, _ => by decide
  | 3, _, _ => by decide
  | 4, _, _ => by decide
  | 5, _, _ => by decide
  | 6, _, _ => by decide
  | 7, _, _ => by decide
  | 8, _, _ => by decide
  | 9, _, _ => by decide
  | 10, _, _ => by decide
  | 11, _, _ => by decide
  | 12, _, _ => by decide
  | 13, _, _ => by decide
  | 14, _, _ => by decide
  | 15, _, _ => by decide
  | 16, _, _ => by decide
  | 17, _, _ => by decide
  | 18, _, _ => by decide
  | 19, _, _ => by decide
  | 20, _, _ => by decide
  | 21, _, _ => by decide
  | n + 22, b, h => by cases h
theorem ki_NoNumber {K : PySem.W.Frag} {mg : Str → Option Value} {cc : Cl} (ce : Ce K mg cc) : ∀ k C ns b, (GG K cc).cls k = some (C, ns) → mki_NoNumber k = some b → PySem.W.kitOne K (.ref C) (.ref cc.NoNumber) = some b
  | 0, C, ns, b, h1, h2 => by
    cases h1
    cases h2
    exact ce.ki_NoNumber_NoNumber
  | 1, C, ns, b, h1, h2 => by
    cases h1
    cases h2
    exact ce.ki_NoPlace_NoNumber
  | 2, C, ns, b, h1, h2 => by
    cases h1
    cases h2
    exact ce.ki_NoOrder_NoNumber
  | 3, C, ns, b, h1, h2 => by
    cases h1
    cases h2
    exact ce.ki_NoPattern_NoNumber
  | 4, C, ns, b, h1, h2 => by
    cases h1
    cases h2
    exact ce.ki_NoLetter_NoNumber
  | 5, C, ns, b, h1, h2 => by
    cases h1
    cases h2
    exact ce.ki_NoTicket_NoNumber
  | 6, C, ns, b, h1, h2 => by
    cases h1
    cases h2
    exact ce.ki_NoSize_NoNumber
  | 7, C, ns, b, h1, h2 => by
    cases h1
    cases h2
    exact ce.ki_NoEnd_NoNumber
  | 8, C, ns, b, h1, h2 => by
    cases h1
    cases h2
    exact ce.ki_NoDeed_NoNumber
  | 9, C, ns, b, h1, h2 => by
    cases h1
    cases h2
    exact ce.ki_NoText_NoNumber
  | 10, C, ns, b, h1, h2 => by
    cases h1
    cases h2
    exact ce.ki_NoRow_NoNumber
  | 11, C, ns, b, h1, h2 => by
    cases h1
    cases h2
    exact ce.ki_NoForm_NoNumber
  | 12, C, ns, b, h1, h2 => by
    cases h1
    cases h2
    exact ce.ki_Halted_NoNumber
  | 13, C, ns, b, h1, h2 => by
    cases h1
    cases h2
    exact ce.ki_NoBack_NoNumber
  | 14, C, ns, b, h1, h2 => by
    cases h1
    cases h2
    exact ce.ki_NoSuch_NoNumber
  | 15, C, ns, b, h1, h2 => by
    cases h1
    cases h2
    exact ce.ki_NoStream_NoNumber
  | 16, C, ns, b, h1, h2 => by
    cases h1
    cases h2
    exact ce.ki_Busy_NoNumber
  | 17, C, ns, b, h1, h2 => by
    cases h1
    cases h2
    exact ce.ki_Taken_NoNumber
  | 18, C, ns, b, h1, h2 => by
    cases h1
    cases h2
    exact ce.ki_Same_NoNumber
  | 19, C, ns, b, h1, h2 => by
    cases h1
    cases h2
    exact ce.ki_Spent_NoNumber
  | 20, C, ns, b, h1, h2 => by
    cases h1
    cases h2
    exact ce.ki_Twice_NoNumber
  | 21, C, ns, b, h1, h2 => by
    cases h1
    cases h2
    exact ce.ki_TooMany_NoNumber
  | n + 22, C, ns, b, _, h2 => by cases h2
theorem kl_NoPlace : ∀ k b, mki_NoPlace k = some b → k < 22
  | 0, _, _ => by decide
  | 1, _, _ => by decide
  | 2, _, _ => by decide
  | 3, _, _ => by decide
  | 4, _, _ => by decide
  | 5, _, _ => by decide
  | 6, _, _ => by decide
  | 7, _, _ => by decide
  | 8, _, _ => by decide
  | 9, _, _ => by decide
  | 10, _, _ => by decide
  | 11, _, _ => by decide
  | 12, _, _ => by decide
  | 13, _, _ => by decide
  | 14, _, _ => by decide
  | 15, _, _ => by decide
  | 16, _, _ => by decide
  | 17, _, _ => by decide
  | 18, _, _ => by decide
  | 19, _, _ => by decide
  | 20, _, _ => by decide
  | 21, _, _ => by decide
  | n + 22, b, h => by cases h
theorem ki_NoPlace {K : PySem.W.Frag} {mg : Str → Option Value} {cc : Cl} (ce : Ce K mg cc) : ∀ k C ns b, (GG K cc).cls k = some (C, ns) → mki_NoPlace k = some b → PySem.W.kitOne K (.ref C) (.ref cc.NoPlace) = some b
  | 0, C, ns, b, h1, h2 => by
    cases h1
    cases h2
    exact ce.ki_NoNumber_NoPlace
  | 1, C, ns, b, h1, h2 => by
    cases h1
    cases h2
    exact ce.ki_NoPlace_NoPlace
  | 2, C, ns, b, h1, h2 => by
    cases h1
    cases h2
    exact ce.ki_NoOrder_NoPlace
  | 3, C, ns, b, h1, h2 => by
    cases h1
    cases h2
    exact ce.ki_NoPattern_NoPlace
  | 4, C, ns, b, h1, h2 => by
    cases h1
    cases h2
    exact ce.ki_NoLetter_NoPlace
  | 5, C, ns, b, h1, h2 => by
    cases h1
    cases h2
    exact ce.ki_NoTicket_NoPlace
  | 6, C, ns, b, h1, h2 => by
    cases h1
    cases h2
    exact ce.ki_NoSize_NoPlace
  | 7, C, ns, b, h1, h2 => by
    cases h1
    cases h2
    exact ce.ki_NoEnd_NoPlace
  | 8, C, ns, b, h1, h2 => by
    cases h1
    cases h2
    exact ce.ki_NoDeed_NoPlace
  | 9, C, ns, b, h1, h2 => by
    cases h1
    cases h2
    exact ce.ki_NoText_NoPlace
  | 10, C, ns, b, h1, h2 => by
    cases h1
    cases h2
    exact ce.ki_NoRow_NoPlace
  | 11, C, ns, b, h1, h2 => by
    cases h1
    cases h2
    exact ce.ki_NoForm_NoPlace
  | 12, C, ns, b, h1, h2 => by
    cases h1
    cases h2
    exact ce.ki_Halted_NoPlace
  | 13, C, ns, b, h1, h2 => by
    cases h1
    cases h2
    exact ce.ki_NoBack_NoPlace
  | 14, C, ns, b, h1, h2 => by
    cases h1
    cases h2
    exact ce.ki_NoSuch_NoPlace
  | 15, C, ns, b, h1, h2 => by
    cases h1
    cases h2
    exact ce.ki_NoStream_NoPlace
  | 16, C, ns, b, h1, h2 => by
    cases h1
    cases h2
    exact ce.ki_Busy_NoPlace
  | 17, C, ns, b, h1, h2 => by
    cases h1
    cases h2
    exact ce.ki_Taken_NoPlace
  | 18, C, ns, b, h1, h2 => by
    cases h1
    cases h2
    exact ce.ki_Same_NoPlace
  | 19, C, ns, b, h1, h2 => by
    cases h1
    cases h2
    exact ce.ki_Spent_NoPlace
  | 20, C, ns, b, h1, h2 => by
    cases h1
    cases h2
    exact ce.ki_Twice_NoPlace
  | 21, C, ns, b, h1, h2 => by
    cases h1
    cases h2
    exact ce.ki_TooMany_NoPlace
  | n + 22, C, ns, b, _, h2 => by cases h2
theorem kl_NoOrder : ∀ k b, mki_NoOrder k = some b → k < 22
  | 0, _, _ => by decide
  | 1, _, _ => by decide
  | 2, _, _ => by decide
  | 3, _, _ => by decide
  | 4, _, _ => by decide
  | 5, _, _ => by decide
  | 6, _, _ => by decide
  | 7, _, _ => by decide
  | 8, _, _ => by decide
  | 9, _, _ => by decide
  | 10, _, _ => by decide
  | 11, _, _ => by decide
  | 12, _, _ => by decide
  | 13, _, _ => by decide
  | 14, _, _ => by decide
  | 15, _, _ => by decide
  | 16, _, _ => by decide
  | 17, _, _ => by decide
  | 18, _, _ => by decide
  | 19, _, _ => by decide
  | 20, _, _ => by decide
  | 21, _, _ => by decide
  | n + 22, b, h => by cases h
theorem ki_NoOrder {K : PySem.W.Frag} {mg : Str → Option Value} {cc : Cl} (ce : Ce K mg cc) : ∀ k C ns b, (GG K cc).cls k = some (C, ns) → mki_NoOrder k = some b → PySem.W.kitOne K (.ref C) (.ref cc.NoOrder) = some b
  | 0, C, ns, b, h1, h2 => by
    cases h1
    cases h2
    exact ce.ki_NoNumber_NoOrder
  | 1, C, ns, b, h1, h2 => by
    cases h1
    cases h2
    exact ce.ki_NoPlace_NoOrder
  | 2, C, ns, b, h1, h2 => by
    cases h1
    cases h2
    exact ce.ki_NoOrder_NoOrder
  | 3, C, ns, b, h1, h2 => by
    cases h1
    cases h2
    exact ce.ki_NoPattern_NoOrder
  | 4, C, ns, b, h1, h2 => by
    cases h1
    cases h2
    exact ce.ki_NoLetter_NoOrder
  | 5, C, ns, b, h1, h2 => by
    cases h1
    cases h2
    exact ce.ki_NoTicket_NoOrder
  | 6, C, ns, b, h1, h2 => by
    cases h1
    cases h2
    exact ce.ki_NoSize_NoOrder
  | 7, C, ns, b, h1, h2 => by
    cases h1
    cases h2
    exact ce.ki_NoEnd_NoOrder
  | 8, C, ns, b, h1, h2 => by
    cases h1
    cases h2
    exact ce.ki_NoDeed_NoOrder
  | 9, C, ns, b, h1, h2 => by
    cases h1
    cases h2
    exact ce.ki_NoText_NoOrder
  | 10, C, ns, b, h1, h2 => by
    cases h1
    cases h2
    exact ce.ki_NoRow_NoOrder
  | 11, C, ns, b, h1, h2 => by
    cases h1
    cases h2
    exact ce.ki_NoForm_NoOrder
  | 12, C, ns, b, h1, h2 => by
    cases h1
    cases h2
    exact ce.ki_Halted_NoOrder
  | 13, C, ns, b, h1, h2 => by
    cases h1
    cases h2
    exact ce.ki_NoBack_NoOrder
  | 14, C, ns, b, h1, h2 => by
    cases h1
    cases h2
    exact ce.ki_NoSuch_NoOrder
  | 15, C, ns, b, h1, h2 => by
    cases h1
    cases h2
    exact ce.ki_NoStream_NoOrder
  | 16, C, ns, b, h1, h2 => by
    cases h1
    cases h2
    exact ce.ki_Busy_NoOrder
  | 17, C, ns, b, h1, h2 => by
    cases h1
    cases h2
    exact ce.ki_Taken_NoOrder
  | 18, C, ns, b, h1, h2 => by
    cases h1
    cases h2
    exact ce.ki_Same_NoOrder
  | 19, C, ns, b, h1, h2 => by
    cases h1
    cases h2
    exact ce.ki_Spent_NoOrder
  | 20, C, ns, b, h1, h2 => by
    cases h1
    cases h2
    exact ce.ki_Twice_NoOrder
  | 21, C, ns, b, h1, h2 => by
    cases h1
    cases h2
    exact ce.ki_TooMany_NoOrder
  | n + 22, C, ns, b, _, h2 => by cases h2
theorem kl_NoPattern : ∀ k b, mki_NoPattern k = some b → k < 22
  | 0, _, _ => by decide
  | 1, _, _ => by decide
  | 2, _, _ => by decide
  | 3, _, _ => by decide
  | 4, _, _ => by decide
  | 5, _, _ => by decide
  | 6, _, _ => by decide
  | 7, _, _ => by decide
  | 8, _, _ => by decide
  | 9, _, _ => by decide
  | 10, _, _ => by decide
  | 11, _, _ => by decide
  | 12, _, _ => by decide
  | 13, _, _ => by decide
  | 14, _, _ => by decide
  | 15, _, _ => by decide
  | 16, _, _ => by decide
  | 17, _, _ => by decide
  | 18, _, _ => by decide
  | 19, _, _ => by decide
  | 20, _, _ => by decide
  | 21, _, _ => by decide
  | n + 22, b, h => by cases h
theorem ki_NoPattern {K : PySem.W.Frag} {mg : Str → Option Value} {cc : Cl} (ce : Ce K mg cc) : ∀ k C ns b, (GG K cc).cls k = some (C, ns) → mki_NoPattern k = some b → PySem.W.kitOne K (.ref C) (.ref cc.NoPattern) = some b
  | 0, C, ns, b, h1, h2 => by
    cases h1
    cases h2
    exact ce.ki_NoNumber_NoPattern
  | 1, C, ns, b, h1, h2 => by
    cases h1
    cases h2
    exact ce.ki_NoPlace_NoPattern
  | 2, C, ns, b, h1, h2 => by
    cases h1
    cases h2
    exact ce.ki_NoOrder_NoPattern
  | 3, C, ns, b, h1, h2 => by
    cases h1
    cases h2
    exact ce.ki_NoPattern_NoPattern
  | 4, C, ns, b, h1, h2 => by
    cases h1
    cases h2
    exact ce.ki_NoLetter_NoPattern
  | 5, C, ns, b, h1, h2 => by
    cases h1
    cases h2
    exact ce.ki_NoTicket_NoPattern
  | 6, C, ns, b, h1, h2 => by
    cases h1
    cases h2
    exact ce.ki_NoSize_NoPattern
  | 7, C, ns, b, h1, h2 => by
    cases h1
    cases h2
    exact ce.ki_NoEnd_NoPattern
  | 8, C, ns, b, h1, h2 => by
    cases h1
    cases h2
    exact ce.ki_NoDeed_NoPattern
  | 9, C, ns, b, h1, h2 => by
    cases h1
    cases h2
    exact ce.ki_NoText_NoPattern
  | 10, C, ns, b, h1, h2 => by
    cases h1
    cases h2
    exact ce.ki_NoRow_NoPattern
  | 11, C, ns, b, h1, h2 => by
    cases h1
    cases h2
    exact ce.ki_NoForm_NoPattern
  | 12, C, ns, b, h1, h2 => by
    cases h1
    cases h2
    exact ce.ki_Halted_NoPattern
  | 13, C, ns, b, h1, h2 => by
    cases h1
    cases h2
    exact ce.ki_NoBack_NoPattern
  | 14, C, ns, b, h1, h2 => by
    cases h1
    cases h2
    exact ce.ki_NoSuch_NoPattern
  | 15, C, ns, b, h1, h2 => by
    cases h1
    cases h2
    exact ce.ki_NoStream_NoPattern
  | 16, C, ns, b, h1, h2 => by
    cases h1
    cases h2
    exact ce.ki_Busy_NoPattern
  | 17, C, ns, b, h1, h2 => by
    cases h1
    cases h2
    exact ce.ki_Taken_NoPattern
  | 18, C, ns, b, h1, h2 => by
    cases h1
    cases h2
    exact ce.ki_Same_NoPattern
  | 19, C, ns, b, h1, h2 => by
    cases h1
    cases h2
    exact ce.ki_Spent_NoPattern
  | 20, C, ns, b, h1, h2 => by
    cases h1
    cases h2
    exact ce.ki_Twice_NoPattern
  | 21, C, ns, b, h1, h2 => by
    cases h1
    cases h2
    exact ce.ki_TooMany_NoPattern
  | n + 22, C, ns, b, _, h2 => by cases h2
theorem kl_NoLetter : ∀ k b, mki_NoLetter k = some b → k < 22
  | 0, _, _ => by decide
  | 1, _, _ => by decide
  | 2, _, _ => by decide
  | 3, _, _ => by decide
  | 4, _, _ => by decide
  | 5, _, _ => by decide
  | 6, _, _ => by decide
  | 7, _, _ => by decide
  | 8, _, _ => by decide
  | 9, _, _ => by decide
  | 10, _, _ => by decide
  | 11, _, _ => by decide
  | 12, _, _ => by decide
  | 13, _, _ => by decide
  | 14, _, _ => by decide
  | 15, _, _ => by decide
  | 16, _, _ => by decide
  | 17, _, _ => by decide
  | 18, _, _ => by decide
  | 19, _, _ => by decide
  | 20, _, _ => by decide
  | 21, _, _ => by decide
  | n + 22, b, h => by cases h
theorem ki_NoLetter {K : PySem.W.Frag} {mg : Str → Option Value} {cc : Cl} (ce : Ce K mg cc) : ∀ k C ns b, (GG K cc).cls k = some (C, ns) → mki_NoLetter k = some b → PySem.W.kitOne K (.ref C) (.ref cc.NoLetter) = some b
  | 0, C, ns, b, h1, h2 => by
    cases h1
    cases h2
    exact ce.ki_NoNumber_NoLetter
  | 1, C, ns, b, h1, h2 => by
    cases h1
    cases h2
    exact ce.ki_NoPlace_NoLetter
  | 2, C, ns, b, h1, h2 => by
    cases h1
    cases h2
    exact ce.ki_NoOrder_NoLetter
  | 3, C, ns, b, h1, h2 => by
    cases h1
    cases h2
    exact ce.ki_NoPattern_NoLetter
  | 4, C, ns, b, h1, h2 => by
    cases h1
    cases h2
    exact ce.ki_NoLetter_NoLetter
  | 5, C, ns, b, h1, h2 => by
    cases h1
    cases h2
    exact ce.ki_NoTicket_NoLetter
  | 6, C, ns, b, h1, h2 => by
    cases h1
    cases h2
    exact ce.ki_NoSize_NoLetter
  | 7, C, ns, b, h1, h2 => by
    cases h1
    cases h2
    exact ce.ki_NoEnd_NoLetter
  | 8, C, ns, b, h1, h2 => by
    cases h1
    cases h2
    exact ce.ki_NoDeed_NoLetter
  | 9, C, ns, b, h1, h2 => by
    cases h1
    cases h2
    exact ce.ki_NoText_NoLetter
  | 10, C, ns, b, h1, h2 => by
    cases h1
    cases h2
    exact ce.ki_NoRow_NoLetter
  | 11, C, ns, b, h1, h2 => by
    cases h1
    cases h2
    exact ce.ki_NoForm_NoLetter
  | 12, C, ns, b, h1, h2 => by
    cases h1
    cases h2
    exact ce.ki_Halted_NoLetter
  | 13, C, ns, b, h1, h2 => by
    cases h1
    cases h2
    exact ce.ki_NoBack_NoLetter
  | 14, C, ns, b, h1, h2 => by
    cases h1
    cases h2
    exact ce.ki_NoSuch_NoLetter
  | 15, C, ns, b, h1, h2 => by
    cases h1
    cases h2
    exact ce.ki_NoStream_NoLetter
  | 16, C, ns, b, h1, h2 => by
    cases h1
    cases h2
    exact ce.ki_Busy_NoLetter
  | 17, C, ns, b, h1, h2 => by
    cases h1
    cases h2
    exact ce.ki_Taken_NoLetter
  | 18, C, ns, b, h1, h2 => by
    cases h1
    cases h2
    exact ce.ki_Same_NoLetter
  | 19, C, ns, b, h1, h2 => by
    cases h1
    cases h2
    exact ce.ki_Spent_NoLetter
  | 20, C, ns, b, h1, h2 => by
    cases h1
    cases h2
    exact ce.ki_Twice_NoLetter
  | 21, C, ns, b, h1, h2 => by
    cases h1
    cases h2
    exact ce.ki_TooMany_NoLetter
  | n + 22, C, ns, b, _, h2 => by cases h2
theorem kl_NoTicket : ∀ k b, mki_NoTicket k = some b → k < 22
  | 0, _, _ => by decide
  | 1, _, _ => by decide
  | 2, _, _ => by decide
  | 3, _, _ => by decide
  | 4, _, _ => by decide
  | 5, _, _ => by decide
  | 6, _, _ => by decide
  | 7, _, _ => by decide
  | 8, _, _ => by decide
  | 9, _, _ => by decide
  | 10, _, _ => by decide
  | 11, _, _ => by decide
  | 12, _, _ => by decide
  | 13, _, _ => by decide
  | 14, _, _ => by decide
  | 15, _, _ => by decide
  | 16, _, _ => by decide
  | 17, _, _ => by decide
  | 18, _, _ => by decide
  | 19, _, _ => by decide
  | 20, _, _ => by decide
  | 21, _, _ => by decide
  | n + 22, b, h => by cases h
theorem ki_NoTicket {K : PySem.W.Frag} {mg : Str → Option Value} {cc : Cl} (ce : Ce K mg cc) : ∀ k C ns b, (GG K cc).cls k = some (C, ns) → mki_NoTicket k = some b → PySem.W.kitOne K (.ref C) (.ref cc.NoTicket) = some b
  | 0, C, ns, b, h1, h2 => by
    cases h1
    cases h2
    exact ce.ki_NoNumber_NoTicket
  | 1, C, ns, b, h1, h2 => by
    cases h1
    cases h2
    exact ce.ki_NoPlace_NoTicket
  | 2, C, ns, b, h1, h2 => by
    cases h1
    cases h2
    exact ce.ki_NoOrder_NoTicket
  | 3, C, ns, b, h1, h2 => by
    cases h1
    cases h2
    exact ce.ki_NoPattern_NoTicket
  | 4, C, ns, b, h1, h2 => by
    cases h1
    cases h2
    exact ce.ki_NoLetter_NoTicket
  | 5, C, ns, b, h1, h2 => by
    cases h1
    cases h2
    exact ce.ki_NoTicket_NoTicket
  | 6, C, ns, b, h1, h2 => by
    cases h1
    cases h2
    exact ce.ki_NoSize_NoTicket
  | 7, C, ns, b, h1, h2 => by
    cases h1
    cases h2
    exact ce.ki_NoEnd_NoTicket
  | 8, C, ns, b, h1, h2 => by
    cases h1
    cases h2
    exact ce.ki_NoDeed_NoTicket
  | 9, C, ns, b, h1, h2 => by
    cases h1
    cases h2
    exact ce.ki_NoText_NoTicket
  | 10, C, ns, b, h1, h2 => by
    cases h1
    cases h2
    exact ce.ki_NoRow_NoTicket
  | 11, C, ns, b, h1, h2 => by
    cases h1
    cases h2
    exact ce.ki_NoForm_NoTicket
  | 12, C, ns, b, h1, h2 => by
    cases h1
    cases h2
    exact ce.ki_Halted_NoTicket
  | 13, C, ns, b, h1, h2 => by
    cases h1
    cases h2
    exact ce.ki_NoBack_NoTicket
  | 14, C, ns, b, h1, h2 => by
    cases h1
    cases h2
    exact ce.ki_NoSuch_NoTicket
  | 15, C, ns, b, h1, h2 => by
    cases h1
    cases h2
    exact ce.ki_NoStream_NoTicket
  | 16, C, ns, b, h1, h2 => by
    cases h1
    cases h2
    exact ce.ki_Busy_NoTicket
  | 17, C, ns, b, h1, h2 => by
    cases h1
    cases h2
    exact ce.ki_Taken_NoTicket
  | 18, C, ns, b, h1, h2 => by
    cases h1
    cases h2
    exact ce.ki_Same_NoTicket
  | 19, C, ns, b, h1, h2 => by
    cases h1
    cases h2
    exact ce.ki_Spent_NoTicket
  | 20, C, ns, b, h1, h2 => by
    cases h1
    cases h2
    exact ce.ki_Twice_NoTicket
  | 21, C, ns, b, h1, h2 => by
    cases h1
    cases h2
    exact ce.ki_TooMany_NoTicket
  | n + 22, C, ns, b, _, h2 => by cases h2
theorem kl_NoSize : ∀ k b, mki_NoSize k = some b → k < 22
  | 0, _, _ => by decide
  | 1, _, _ => by decide
  | 2, _, _ => by decide
  | 3, _, _ => by decide
  | 4, _, _ => by decide
  | 5, _, _ => by decide
  | 6, _, _ => by decide
  | 7, _, _ => by decide
  | 8, _, _ => by decide
  | 9, _, _ => by decide
  | 10, _, _ => by decide
  | 11, _, _ => by decide
  | 12, _, _ => by decide
  | 13, _, _ => by decide
  | 14, _, _ => by decide
  | 15, _, _ => by decide
  | 16, _, _ => by decide
  | 17, _, _ => by decide
  | 18, _, _ => by decide
  | 19, _, _ => by decide
  | 20, _, _ => by decide
  | 21, _, _ => by decide
  | n + 22, b, h => by cases h
theorem ki_NoSize {K : PySem.W.Frag} {mg : Str → Option Value} {cc : Cl} (ce : Ce K mg cc) : ∀ k C ns b, (GG K cc).cls k = some (C, ns) → mki_NoSize k = some b → PySem.W.kitOne K (.ref C) (.ref cc.NoSize) = some b
  | 0, C, ns, b, h1, h2 => by
    cases h1
    cases h2
    exact ce.ki_NoNumber_NoSize
  | 1, C, ns, b, h1, h2 => by
    cases h1
    cases h2
    exact ce.ki_NoPlace_NoSize
  | 2, C, ns, b, h1, h2 => by
    cases h1
    cases h2
    exact ce.ki_NoOrder_NoSize
  | 3, C, ns, b, h1, h2 => by
    cases h1
    cases h2
    exact ce.ki_NoPattern_NoSize
  | 4, C, ns, b, h1, h2 => by
    cases h1
    cases h2
    exact ce.ki_NoLetter_NoSize
  | 5, C, ns, b, h1, h2 => by
    cases h1
    cases h2
    exact ce.ki_NoTicket_NoSize
  | 6, C, ns, b, h1, h2 => by
    cases h1
    cases h2
    exact ce.ki_NoSize_NoSize
  | 7, C, ns, b, h1, h2 => by
    cases h1
    cases h2
    exact ce.ki_NoEnd_NoSize
  | 8, C, ns, b, h1, h2 => by
    cases h1
    cases h2
    exact ce.ki_NoDeed_NoSize
  | 9, C, ns, b, h1, h2 => by
    cases h1
    cases h2
    exact ce.ki_NoText_NoSize
  | 10, C, ns, b, h1, h2 => by
    cases h1
    cases h2
    exact ce.ki_NoRow_NoSize
  | 11, C, ns, b, h1, h2 => by
    cases h1
    cases h2
    exact ce.ki_NoForm_NoSize
  | 12, C, ns, b, h1, h2 => by
    cases h1
    cases h2
    exact ce.ki_Halted_NoSize
  | 13, C, ns, b, h1, h2 => by
    cases h1
    cases h2
    exact ce.ki_NoBack_NoSize
  | 14, C, ns, b, h1, h2 => by
    cases h1
    cases h2
    exact ce.ki_NoSuch_NoSize
  | 15, C, ns, b, h1, h2 => by
    cases h1
    cases h2
    exact ce.ki_NoStream_NoSize
  | 16, C, ns, b, h1, h2 => by
    cases h1
    cases h2
    exact ce.ki_Busy_NoSize
  | 17, C, ns, b, h1, h2 => by
    cases h1
    cases h2
    exact ce.ki_Taken_NoSize
  | 18, C, ns, b, h1, h2 => by
    cases h1
    cases h2
    exact ce.ki_Same_NoSize
  | 19, C, ns, b, h1, h2 => by
    cases h1
    cases h2
    exact ce.ki_Spent_NoSize
  | 20, C, ns, b, h1, h2 => by
    cases h1
    cases h2
    exact ce.ki_Twice_NoSize
  | 21, C, ns, b, h1, h2 => by
    cases h1
    cases h2
    exact ce.ki_TooMany_NoSize
  | n + 22, C, ns, b, _, h2 => by cases h2
theorem kl_NoEnd : ∀ k b, mki_NoEnd k = some b → k < 22
  | 0, _, _ => by decide
  | 1, _, _ => by decide
  | 2, _, _ => by decide
  | 3, _, _ => by decide
  | 4, _, _ => by decide
  | 5, _, _ => by decide
  | 6, _, _ => by decide
  | 7, _, _ => by decide
  | 8, _, _ => by decide
  | 9, _, _ => by decide
  | 10, _, _ => by decide
  | 11, _, _ => by decide
  | 12, _, _ => by decide
  | 13, _, _ => by decide
  | 14, _, _ => by decide
  | 15, _, _ => by decide
  | 16, _, _ => by decide
  | 17, _, _ => by decide
  | 18, _, _ => by decide
  | 19, _, _ => by decide
  | 20, _, _ => by decide
  | 21, _, _ => by decide
  | n + 22, b, h => by cases h
theorem ki_NoEnd {K : PySem.W.Frag} {mg : Str → Option Value} {cc : Cl} (ce : Ce K mg cc) : ∀ k C ns b, (GG K cc).cls k = some (C, ns) → mki_NoEnd k = some b → PySem.W.kitOne K (.ref C) (.ref cc.NoEnd) = some b
  | 0, C, ns, b, h1, h2 => by
    cases h1
    cases h2
    exact ce.ki_NoNumber_NoEnd
  | 1, C, ns, b, h1, h2 => by
    cases h1
    cases h2
    exact ce.ki_NoPlace_NoEnd
  | 2, C, ns, b, h1, h2 => by
    cases h1
    cases h2
    exact ce.ki_NoOrder_NoEnd
  | 3, C, ns, b, h1, h2 => by
    cases h1
    cases h2
    exact ce.ki_NoPattern_NoEnd
  | 4, C, ns, b, h1, h2 => by
    cases h1
    cases h2
    exact ce.ki_NoLetter_NoEnd
  | 5, C, ns, b, h1, h2 => by
    cases h1
    cases h2
    exact ce.ki_NoTicket_NoEnd
  | 6, C, ns, b, h1, h2 => by
    cases h1
    cases h2
    exact ce.ki_NoSize_NoEnd
  | 7, C, ns, b, h1, h2 => by
    cases h1
    cases h2
    exact ce.ki_NoEnd_NoEnd
  | 8, C, ns, b, h1, h2 => by
    cases h1
    cases h2
    exact ce.ki_NoDeed_NoEnd
  | 9, C, ns, b, h1, h2 => by
    cases h1
    cases h2
    exact ce.ki_NoText_NoEnd
  | 10, C, ns, b, h1, h2 => by
    cases h1
    cases h2
    exact ce.ki_NoRow_NoEnd
  | 11, C, ns, b, h1, h2 => by
    cases h1
    cases h2
    exact ce.ki_NoForm_NoEnd
  | 12, C, ns, b, h1, h2 => by
    cases h1
    cases h2
    exact ce.ki_Halted_NoEnd
  | 13, C, ns, b, h1, h2 => by
    cases h1
    cases h2
    exact ce.ki_NoBack_NoEnd
  | 14, C, ns, b, h1, h2 => by
    cases h1
    cases h2
    exact ce.ki_NoSuch_NoEnd
  | 15, C, ns, b, h1, h2 => by
    cases h1
    cases h2
    exact ce.ki_NoStream_NoEnd
  | 16, C, ns, b, h1, h2 => by
    cases h1
    cases h2
    exact ce.ki_Busy_NoEnd
  | 17, C, ns, b, h1, h2 => by
    cases h1
    cases h2
    exact ce.ki_Taken_NoEnd
  | 18, C, ns, b, h1, h2 => by
    cases h1
    cases h2
    exact ce.ki_Same_NoEnd
  | 19, C, ns, b, h1, h2 => by
    cases h1
    cases h2
    exact ce.ki_Spent_NoEnd
  | 20, C, ns, b, h1, h2 => by
    cases h1
    cases h2
    exact ce.ki_Twice_NoEnd
  | 21, C, ns, b, h1, h2 => by
    cases h1
    cases h2
    exact ce.ki_TooMany_NoEnd
  | n + 22, C, ns, b, _, h2 => by cases h2
theorem kl_NoDeed : ∀ k b, mki_NoDeed k = some b → k < 22
  | 0, _, _ => by decide
  | 1, _, _ => by decide
  | 2, _, _ => by decide
  | 3, _, _ => by decide
  | 4, _, _ => by decide
  | 5, _, _ => by decide
  | 6, _, _ => by decide
  | 7, _, _ => by decide
  | 8, _, _ => by decide
  | 9, _, _ => by decide
  | 10, _, _ => by decide
  | 11, _, _ => by decide
  | 12, _, _ => by decide
  | 13, _, _ => by decide
  | 14, _, _ => by decide
  | 15, _, _ => by decide
  | 16, _, _ => by decide
  | 17, _, _ => by decide
  | 18, _, _ => by decide
  | 19, _, _ => by decide
  | 20, _, _ => by decide
  | 21, _, _ => by decide
  | n + 22, b, h => by cases h
theorem ki_NoDeed {K : PySem.W.Frag} {mg : Str → Option Value} {cc : Cl} (ce : Ce K mg cc) : ∀ k C ns b, (GG K cc).cls k = some (C, ns) → mki_NoDeed k = some b → PySem.W.kitOne K (.ref C) (.ref cc.NoDeed) = some b
  | 0, C, ns, b, h1, h2 => by
    cases h1
    cases h2
    exact ce.ki_NoNumber_NoDeed
  | 1, C, ns, b, h1, h2 => by
    cases h1
    cases h2
    exact ce.ki_NoPlace_NoDeed
  | 2, C, ns, b, h1, h2 => by
    cases h1
    cases h2
    exact ce.ki_NoOrder_NoDeed
  | 3, C, ns, b, h1, h2 => by
    cases h1
    cases h2
    exact ce.ki_NoPattern_NoDeed
  | 4, C, ns, b, h1, h2 => by
    cases h1
    cases h2
    exact ce.ki_NoLetter_NoDeed
  | 5, C, ns, b, h1, h2 => by
    cases h1
    cases h2
    exact ce.ki_NoTicket_NoDeed
  | 6, C, ns, b, h1, h2 => by
    cases h1
    cases h2
    exact ce.ki_NoSize_NoDeed
  | 7, C, ns, b, h1, h2 => by
    cases h1
    cases h2
    exact ce.ki_NoEnd_NoDeed
  | 8, C, ns, b, h1, h2 => by
    cases h1
    cases h2
    exact ce.ki_NoDeed_NoDeed
  | 9, C, ns, b, h1, h2 => by
    cases h1
    cases h2
    exact ce.ki_NoText_NoDeed
  | 10, C, ns, b, h1, h2 => by
    cases h1
    cases h2
    exact ce.ki_NoRow_NoDeed
  | 11, C, ns, b, h1, h2 => by
    cases h1
    cases h2
    exact ce.ki_NoForm_NoDeed
  | 12, C, ns, b, h1, h2 => by
    cases h1
    cases h2
    exact ce.ki_Halted_NoDeed
  | 13, C, ns, b, h1, h2 => by
    cases h1
    cases h2
    exact ce.ki_NoBack_NoDeed
  | 14, C, ns, b, h1, h2 => by
    cases h1
    cases h2
    exact ce.ki_NoSuch_NoDeed
  | 15, C, ns, b, h1, h2 => by
    cases h1
    cases h2
    exact ce.ki_NoStream_NoDeed
  | 16, C, ns, b, h1, h2 => by
    cases h1
    cases h2
    exact ce.ki_Busy_NoDeed
  | 17, C, ns, b, h1, h2 => by
    cases h1
    cases h2
    exact ce.ki_Taken_NoDeed
  | 18, C, ns, b, h1, h2 => by
    cases h1
    cases h2
    exact ce.ki_Same_NoDeed
  | 19, C, ns, b, h1, h2 => by
    cases h1
    cases h2
    exact ce.ki_Spent_NoDeed
  | 20, C, ns, b, h1, h2 => by
    cases h1
    cases h2
    exact ce.ki_Twice_NoDeed
  | 21, C, ns, b, h1, h2 => by
    cases h1
    cases h2
    exact ce.ki_TooMany_NoDeed
  | n + 22, C, ns, b, _, h2 => by cases h2
theorem kl_NoText : ∀ k b, mki_NoText k = some b → k < 22
  | 0, _, _ => by decide
  | 1, _, _ => by decide
  | 2, _, _ => by decide
  | 3, _, _ => by decide
  | 4, _, _ => by decide
  | 5, _, _ => by decide
  | 6, _, _ => by decide
  | 7, _, _ => by decide
  | 8, _, _ => by decide
  | 9, _, _ => by decide
  | 10, _, _ => by decide
  | 11, _, _ => by decide
  | 12, _, _ => by decide
  | 13, _, _ => by decide
  | 14, _, _ => by decide
  | 15, _, _ => by decide
  | 16, _, _ => by decide
  | 17, _, _ => by decide
  | 18, _, _ => by decide
  | 19, _, _ => by decide
  | 20, _, _ => by decide
  | 21, _, _ => by decide
  | n + 22, b, h => by cases h
theorem ki_NoText {K : PySem.W.Frag} {mg : Str → Option Value} {cc : Cl} (ce : Ce K mg cc) : ∀ k C ns b, (GG K cc).cls k = some (C, ns) → mki_NoText k = some b → PySem.W.kitOne K (.ref C) (.ref cc.NoText) = some b
  | 0, C, ns, b, h1, h2 => by
    cases h1
    cases h2
    exact ce.ki_NoNumber_NoText
  | 1, C, ns, b, h1, h2 => by
    cases h1
    cases h2
    exact ce.ki_NoPlace_NoText
  | 2, C, ns, b, h1, h2 => by
    cases h1
    cases h2
    exact ce.ki_NoOrder_NoText
  | 3, C, ns, b, h1, h2 => by
    cases h1
    cases h2
    exact ce.ki_NoPattern_NoText
  | 4, C, ns, b, h1, h2 => by
    cases h1
    cases h2
    exact ce.ki_NoLetter_NoText
  | 5, C, ns, b, h1, h2 => by
    cases h1
    cases h2
    exact ce.ki_NoTicket_NoText
  | 6, C, ns, b, h1, h2 => by
    cases h1
    cases h2
    exact ce.ki_NoSize_NoText
  | 7, C, ns, b, h1, h2 => by
    cases h1
    cases h2
    exact ce.ki_NoEnd_NoText
  | 8, C, ns, b, h1, h2 => by
    cases h1
    cases h2
    exact ce.ki_NoDeed_NoText
  | 9, C, ns, b, h1, h2 => by
    cases h1
    cases h2
    exact ce.ki_NoText_NoText
  | 10, C, ns, b, h1, h2 => by
    cases h1
    cases h2
    exact ce.ki_NoRow_NoText
  | 11, C, ns, b, h1, h2 => by
    cases h1
    cases h2
    exact ce.ki_NoForm_NoText
  | 12, C, ns, b, h1, h2 => by
    cases h1
    cases h2
    exact ce.ki_Halted_NoText
  | 13, C, ns, b, h1, h2 => by
    cases h1
    cases h2
    exact ce.ki_NoBack_NoText
  | 14, C, ns, b, h1, h2 => by
    cases h1
    cases h2
    exact ce.ki_NoSuch_NoText
  | 15, C, ns, b, h1, h2 => by
    cases h1
    cases h2
    exact ce.ki_NoStream_NoText
  | 16, C, ns, b, h1, h2 => by
    cases h1
    cases h2
    exact ce.ki_Busy_NoText
  | 17, C, ns, b, h1, h2 => by
    cases h1
    cases h2
    exact ce.ki_Taken_NoText
  | 18, C, ns, b, h1, h2 => by
    cases h1
    cases h2
    exact ce.ki_Same_NoText
  | 19, C, ns, b, h1, h2 => by
    cases h1
    cases h2
    exact ce.ki_Spent_NoText
  | 20, C, ns, b, h1, h2 => by
    cases h1
    cases h2
    exact ce.ki_Twice_NoText
  | 21, C, ns, b, h1, h2 => by
    cases h1
    cases h2
    exact ce.ki_TooMany_NoText
  | n + 22, C, ns, b, _, h2 => by cases h2
theorem kl_NoRow : ∀ k b, mki_NoRow k = some b → k < 22
  | 0, _, _ => by decide
  | 1, _, _ => by decide
  | 2, _, _ => by decide
  | 3, _, _ => by decide
  | 4, _, _ => by decide
  | 5, _, _ => by decide
  | 6, _, _ => by decide
  | 7, _, _ => by decide
  | 8, _, _ => by decide
  | 9, _, _ => by decide
  | 10, _, _ => by decide
  | 11, _, _ => by decide
  | 12, _, _ => by decide
  | 13, _, _ => by decide
  | 14, _, _ => by decide
  | 15, _, _ => by decide
  | 16, _, _ => by decide
  | 17, _, _ => by decide
  | 18, _, _ => by decide
  | 19, _, _ => by decide
  | 20, _, _ => by decide
  | 21, _, _ => by decide
  | n + 22, b, h => by cases h
theorem ki_NoRow {K : PySem.W.Frag} {mg : Str → Option Value} {cc : Cl} (ce : Ce K mg cc) : ∀ k C ns b, (GG K cc).cls k = some (C, ns) → mki_NoRow k = some b → PySem.W.kitOne K (.ref C) (.ref cc.NoRow) = some b
  | 0, C, ns, b, h1, h2 => by
    cases h1
    cases h2
    exact ce.ki_NoNumber_NoRow
  | 1, C, ns, b, h1, h2 => by
    cases h1
    cases h2
    exact ce.ki_NoPlace_NoRow
  | 2, C, ns, b, h1, h2 => by
    cases h1
    cases h2
    exact ce.ki_NoOrder_NoRow
  | 3, C, ns, b, h1, h2 => by
    cases h1
    cases h2
    exact ce.ki_NoPattern_NoRow
  | 4, C, ns, b, h1, h2 => by
    cases h1
    cases h2
    exact ce.ki_NoLetter_NoRow
  | 5, C, ns, b, h1, h2 => by
    cases h1
    cases h2
    exact ce.ki_NoTicket_NoRow
  | 6, C, ns, b, h1, h2 => by
    cases h1
    cases h2
    exact ce.ki_NoSize_NoRow
  | 7, C, ns, b, h1, h2 => by
    cases h1
    cases h2
    exact ce.ki_NoEnd_NoRow
  | 8, C, ns, b, h1, h2 => by
    cases h1
    cases h2
    exact ce.ki_NoDeed_NoRow
  | 9, C, ns, b, h1, h2 => by
    cases h1
    cases h2
    exact ce.ki_NoText_NoRow
  | 10, C, ns, b, h1, h2 => by
    cases h1
    cases h2
    exact ce.ki_NoRow_NoRow
  | 11, C, ns, b, h1, h2 => by
    cases h1
    cases h2
    exact ce.ki_NoForm_NoRow
  | 12, C, ns, b, h1, h2 => by
    cases h1
    cases h2
    exact ce.ki_Halted_NoRow
  | 13, C, ns, b, h1, h2 => by
    cases h1
    cases h2
    exact ce.ki_NoBack_NoRow
  | 14, C, ns, b, h1, h2 => by
    cases h1
    cases h2
    exact ce.ki_NoSuch_NoRow
  | 15, C, ns, b, h1, h2 => by
    cases h1
    cases h2
    exact ce.ki_NoStream_NoRow
  | 16, C, ns, b, h1, h2 => by
    cases h1
    cases h2
    exact ce.ki_Busy_NoRow
  | 17, C, ns, b, h1, h2 => by
    cases h1
    cases h2
    exact ce.ki_Taken_NoRow
  | 18, C, ns, b, h1, h2 => by
    cases h1
    cases h2
    exact ce.ki_Same_NoRow
  | 19, C, ns, b, h1, h2 => by
    cases h1
    cases h2
    exact ce.ki_Spent_NoRow
  | 20, C, ns, b, h1, h2 => by
    cases h1
    cases h2
    exact ce.ki_Twice_NoRow
  | 21, C, ns, b, h1, h2 => by
    cases h1
    cases h2
    exact ce.ki_TooMany_NoRow
  | n + 22, C, ns, b, _, h2 => by cases h2
theorem kl_NoForm : ∀ k b, mki_NoForm k = some b → k < 22
  | 0, _, _ => by decide
  | 1, _, _ => by decide
  | 2, _, _ => by decide
  | 3, _, _ => by decide
  | 4, _, _ => by decide
  | 5, _, _ => by decide
  | 6, _, _ => by decide
  | 7, _, _ => by decide
  | 8, _, _ => by decide
  | 9, _, _ => by decide
  | 10, _, _ => by decide
  | 11, _, _ => by decide
  | 12, _, _ => by decide
  | 13, _, _ => by decide
  | 14, _, _ => by decide
  | 15, _, _ => by decide
  | 16, _, _ => by decide
  | 17, _, _ => by decide
  | 18, _, _ => by decide
  | 19, _, _ => by decide
  | 20, _, _ => by decide
  | 21, _, _ => by decide
  | n + 22, b, h => by cases h
theorem ki_NoForm {K : PySem.W.Frag} {mg : Str → Option Value} {cc : Cl} (ce : Ce K mg cc) : ∀ k C ns b, (GG K cc).cls k = some (C, ns) → mki_NoForm k = some b → PySem.W.kitOne K (.ref C) (.ref cc.NoForm) = some b
  | 0, C, ns, b, h1, h2 => by
    cases h1
    cases h2
    exact ce.ki_NoNumber_NoForm
  | 1, C, ns, b, h1, h2 => by
    cases h1
    cases h2
    exact ce.ki_NoPlace_NoForm
  | 2, C, ns, b, h1, h2 => by
    cases h1
    cases h2
    exact ce.ki_NoOrder_NoForm
  | 3, C, ns, b, h1, h2 => by
    cases h1
    cases h2
    exact ce.ki_NoPattern_NoForm
  | 4, C, ns, b, h1, h2 => by
    cases h1
    cases h2
    exact ce.ki_NoLetter_NoForm
  | 5, C, ns, b, h1, h2 => by
    cases h1
    cases h2
    exact ce.ki_NoTicket_NoForm
  | 6, C, ns, b, h1, h2 => by
    cases h1
    cases h2
    exact ce.ki_NoSize_NoForm
  | 7, C, ns, b, h1, h2 => by
    cases h1
    cases h2
    exact ce.ki_NoEnd_NoForm
  | 8, C, ns, b, h1, h2 => by
    cases h1
    cases h2
    exact ce.ki_NoDeed_NoForm
  | 9, C, ns, b, h1, h2 => by
    cases h1
    cases h2
    exact ce.ki_NoText_NoForm
  | 10, C, ns, b, h1, h2 => by
    cases h1
    cases h2
    exact ce.ki_NoRow_NoForm
  | 11, C, ns, b, h1, h2 => by
    cases h1
    cases h2
    exact ce.ki_NoForm_NoForm
  | 12, C, ns, b, h1, h2 => by
    cases h1
    cases h2
    exact ce.ki_Halted_NoForm
  | 13, C, ns, b, h1, h2 => by
    cases h1
    cases h2
    exact ce.ki_NoBack_NoForm
  | 14, C, ns, b, h1, h2 => by
    cases h1
    cases h2
    exact ce.ki_NoSuch_NoForm
  | 15, C, ns, b, h1, h2 => by
    cases h1
    cases h2
    exact ce.ki_NoStream_NoForm
  | 16, C, ns, b, h1, h2 => by
    cases h1
    cases h2
    exact ce.ki_Busy_NoForm
  | 17, C, ns, b, h1, h2 => by
    cases h1
    cases h2
    exact ce.ki_Taken_NoForm
  | 18, C, ns, b, h1, h2 => by
    cases h1
    cases h2
    exact ce.ki_Same_NoForm
  | 19, C, ns, b, h1, h2 => by
    cases h1
    cases h2
    exact ce.ki_Spent_NoForm
  | 20, C, ns, b, h1, h2 => by
    cases h1
    cases h2
    exact ce.ki_Twice_NoForm
  | 21, C, ns, b, h1, h2 => by
    cases h1
    cases h2
    exact ce.ki_TooMany_NoForm
  | n + 22, C, ns, b, _, h2 => by cases h2
theorem kl_Halted : ∀ k b, mki_Halted k = some b → k < 22
  | 0, _, _ => by decide
  | 1, _, _ => by decide
  | 2, _, _ => by decide
  | 3, _, _ => by decide
  | 4, _, _ => by decide
  | 5, _, _ => by decide
  | 6, _, _ => by decide
  | 7, _, _ => by decide
  | 8, _, _ => by decide
  | 9, _, _ => by decide
  | 10, _, _ => by decide
  | 11, _, _ => by decide
  | 12, _, _ => by decide
  | 13, _, _ => by decide
  | 14, _, _ => by decide
  | 15, _, _ => by decide
  | 16, _, _ => by decide
  | 17, _, _ => by decide
  | 18, _, _ => by decide
  | 19, _, _ => by decide
  | 20, _, _ => by decide
  | 21, _, _ => by decide
  | n + 22, b, h => by cases h
theorem ki_Halted {K : PySem.W.Frag} {mg : Str → Option Value} {cc : Cl} (ce : Ce K mg cc) : ∀ k C ns b, (GG K cc).cls k = some (C, ns) → mki_Halted k = some b → PySem.W.kitOne K (.ref C) (.ref cc.Halted) = some b
  | 0, C, ns, b, h1, h2 => by
    cases h1
    cases h2
    exact ce.ki_NoNumber_Halted
  | 1, C, ns, b, h1, h2 => by
    cases h1
    cases h2
    exact ce.ki_NoPlace_Halted
  | 2, C, ns, b, h1, h2 => by
    cases h1
    cases h2
    exact ce.ki_NoOrder_Halted
  | 3, C, ns, b, h1, h2 => by
    cases h1
    cases h2
    exact ce.ki_NoPattern_Halted
  | 4, C, ns, b, h1, h2 => by
    cases h1
    cases h2
    exact ce.ki_NoLetter_Halted
  | 5, C, ns, b, h1, h2 => by
    cases h1
    cases h2
    exact ce.ki_NoTicket_Halted
  | 6, C, ns, b, h1, h2 => by
    cases h1
    cases h2
    exact ce.ki_NoSize_Halted
  | 7, C, ns, b, h1, h2 => by
    cases h1
    cases h2
    exact ce.ki_NoEnd_Halted
  | 8, C, ns, b, h1, h2 => by
    cases h1
    cases h2
    exact ce.ki_NoDeed_Halted
  | 9, C, ns, b, h1, h2 => by
    cases h1
    cases h2
    exact ce.ki_NoText_Halted
  | 10, C, ns, b, h1, h2 => by
    cases h1
    cases h2
    exact ce.ki_NoRow_Halted
  | 11, C, ns, b, h1, h2 => by
    cases h1
    cases h2
    exact ce.ki_NoForm_Halted
  | 12, C, ns, b, h1, h2 => by
    cases h1
    cases h2
    exact ce.ki_Halted_Halted
  | 13, C, ns, b, h1, h2 => by
    cases h1
    cases h2
    exact ce.ki_NoBack_Halted
  | 14, C, ns, b, h1, h2 => by
    cases h1
    cases h2
    exact ce.ki_NoSuch_Halted
  | 15, C, ns, b, h1, h2 => by
    cases h1
    cases h2
    exact ce.ki_NoStream_Halted
  | 16, C, ns, b, h1, h2 => by
    cases h1
    cases h2
    exact ce.ki_Busy_Halted
  | 17, C, ns, b, h1, h2 => by
    cases h1
    cases h2
    exact ce.ki_Taken_Halted
  | 18, C, ns, b, h1, h2 => by
    cases h1
    cases h2
    exact ce.ki_Same_Halted
  | 19, C, ns, b, h1, h2 => by
    cases h1
    cases h2
    exact ce.ki_Spent_Halted
  | 20, C, ns, b, h1, h2 => by
    cases h1
    cases h2
    exact ce.ki_Twice_Halted
  | 21, C, ns, b, h1, h2 => by
    cases h1
    cases h2
    exact ce.ki_TooMany_Halted
  | n + 22, C, ns, b, _, h2 => by cases h2
theorem kl_NoBack : ∀ k b, mki_NoBack k = some b → k < 22
  | 0, _, _ => by decide
  | 1, _, _ => by decide
  | 2, _, _ => by decide
  | 3, _, _ => by decide
  | 4, _, _ => by decide
  | 5, _, _ => by decide
  | 6, _, _ => by decide
  | 7, _, _ => by decide
  | 8, _, _ => by decide
  | 9, _, _ => by decide
  | 10, _, _ => by decide
  | 11, _, _ => by decide
  | 12, _, _ => by decide
  | 13, _, _ => by decide
  | 14, _, _ => by decide
  | 15, _, _ => by decide
  | 16, _, _ => by decide
  | 17, _, _ => by decide
  | 18, _, _ => by decide
  | 19, _, _ => by decide
  | 20, _, _ => by decide
  | 21, _, _ => by decide
  | n + 22, b, h => by cases h
theorem ki_NoBack {K : PySem.W.Frag} {mg : Str → Option Value} {cc : Cl} (ce : Ce K mg cc) : ∀ k C ns b, (GG K cc).cls k = some (C, ns) → mki_NoBack k = some b → PySem.W.kitOne K (.ref C) (.ref cc.NoBack) = some b
  | 0, C, ns, b, h1, h2 => by
    cases h1
    cases h2
    exact ce.ki_NoNumber_NoBack
  | 1, C, ns, b, h1, h2 => by
    cases h1
    cases h2
    exact ce.ki_NoPlace_NoBack
  | 2, C, ns, b, h1, h2 => by
    cases h1
    cases h2
    exact ce.ki_NoOrder_NoBack
  | 3, C, ns, b, h1, h2 => by
    cases h1
    cases h2
    exact ce.ki_NoPattern_NoBack
  | 4, C, ns, b, h1, h2 => by
    cases h1
    cases h2
    exact ce.ki_NoLetter_NoBack
  | 5, C, ns, b, h1, h2 => by
    cases h1
    cases h2
    exact ce.ki_NoTicket_NoBack
  | 6, C, ns, b, h1, h2 => by
    cases h1
    cases h2
    exact ce.ki_NoSize_NoBack
  | 7, C, ns, b, h1, h2 => by
    cases h1
    cases h2
    exact ce.ki_NoEnd_NoBack
  | 8, C, ns, b, h1, h2 => by
    cases h1
    cases h2
    exact ce.ki_NoDeed_NoBack
  | 9, C, ns, b, h1, h2 => by
    cases h1
    cases h2
    exact ce.ki_NoText_NoBack
  | 10, C, ns, b, h1, h2 => by
    cases h1
    cases h2
    exact ce.ki_NoRow_NoBack
  | 11, C, ns, b, h1, h2 => by
    cases h1
    cases h2
    exact ce.ki_NoForm_NoBack
  | 12, C, ns, b, h1, h2 => by
    cases h1
    cases h2
    exact ce.ki_Halted_NoBack
  | 13, C, ns, b, h1, h2 => by
    cases h1
    cases h2
    exact ce.ki_NoBack_NoBack
  | 14, C, ns, b, h1, h2 => by
    cases h1
    cases h2
    exact ce.ki_NoSuch_NoBack
  | 15, C, ns, b, h1, h2 => by
    cases h1
    cases h2
    exact ce.ki_NoStream_NoBack
  | 16, C, ns, b, h1, h2 => by
    cases h1
    cases h2
    exact ce.ki_Busy_NoBack
  | 17, C, ns, b, h1, h2 => by
    cases h1
    cases h2
    exact ce.ki_Taken_NoBack
  | 18, C, ns, b, h1, h2 => by
    cases h1
    cases h2
    exact ce.ki_Same_NoBack
  | 19, C, ns, b, h1, h2 => by
    cases h1
    cases h2
    exact ce.ki_Spent_NoBack
  | 20, C, ns, b, h1, h2 => by
    cases h1
    cases h2
    exact ce.ki_Twice_NoBack
  | 21, C, ns, b, h1, h2 => by
    cases h1
    cases h2
    exact ce.ki_TooMany_NoBack
  | n + 22, C, ns, b, _, h2 => by cases h2
theorem kl_NoSuch : ∀ k b, mki_NoSuch k = some b → k < 22
  | 0, _, _ => by decide
  | 1, _, _ => by decide
  | 2, _, _ => by decide
  | 3, _, _ => by decide
  | 4, _, _ => by decide
  | 5, _, _ => by decide
  | 6, _, _ => by decide
  | 7, _, _ => by decide
  | 8, _, _ => by decide
  | 9, _, _ => by decide
  | 10, _, _ => by decide
  | 11, _, _ => by decide
  | 12, _, _ => by decide
  | 13, _, _ => by decide
  | 14, _, _ => by decide
  | 15, _, _ => by decide
  | 16, _, _ => by decide
  | 17, _, _ => by decide
  | 18, _, _ => by decide
  | 19, _, _ => by decide
  | 20, _, _ => by decide
  | 21, _, _ => by decide
  | n + 22, b, h => by cases h
theorem ki_NoSuch {K : PySem.W.Frag} {mg : Str → Option Value} {cc : Cl} (ce : Ce K mg cc) : ∀ k C ns b, (GG K cc).cls k = some (C, ns) → mki_NoSuch k = some b → PySem.W.kitOne K (.ref C) (.ref cc.NoSuch) = some b
  | 0, C, ns, b, h1, h2 => by
    cases h1
    cases h2
    exact ce.ki_NoNumber_NoSuch
  | 1, C, ns, b, h1, h2 => by
    cases h1
    cases h2
    exact ce.ki_NoPlace_NoSuch
  | 2, C, ns, b, h1, h2 => by
    cases h1
    cases h2
    exact ce.ki_NoOrder_NoSuch
  | 3, C, ns, b, h1, h2 => by
    cases h1
    cases h2
    exact ce.ki_NoPattern_NoSuch
  | 4, C, ns, b, h1, h2 => by
    cases h1
    cases h2
    exact ce.ki_NoLetter_NoSuch
  | 5, C, ns, b, h1, h2 => by
    cases h1
    cases h2
    exact ce.ki_NoTicket_NoSuch
  | 6, C, ns, b, h1, h2 => by
    cases h1
    cases h2
    exact ce.ki_NoSize_NoSuch
  | 7, C, ns, b, h1, h2 => by
    cases h1
    cases h2
    exact ce.ki_NoEnd_NoSuch
  | 8, C, ns, b, h1, h2 => by
    cases h1
    cases h2
    exact ce.ki_NoDeed_NoSuch
  | 9, C, ns, b, h1, h2 => by
    cases h1
    cases h2
    exact ce.ki_NoText_NoSuch
  | 10, C, ns, b, h1, h2 => by
    cases h1
    cases h2
    exact ce.ki_NoRow_NoSuch
  | 11, C, ns, b, h1, h2 => by
    cases h1
    cases h2
    exact ce.ki_NoForm_NoSuch
  | 12, C, ns, b, h1, h2 => by
    cases h1
    cases h2
    exact ce.ki_Halted_NoSuch
  | 13, C, ns, b, h1, h2 => by
    cases h1
    cases h2
    exact ce.ki_NoBack_NoSuch
  | 14, C, ns, b, h1, h2 => by
    cases h1
    cases h2
    exact ce.ki_NoSuch_NoSuch
  | 15, C, ns, b, h1, h2 => by
    cases h1
    cases h2
    exact ce.ki_NoStream_NoSuch
  | 16, C, ns, b, h1, h2 => by
    cases h1
    cases h2
    exact ce.ki_Busy_NoSuch
  | 17, C, ns, b, h1, h2 => by
    cases h1
    cases h2
    exact ce.ki_Taken_NoSuch
  | 18, C, ns, b, h1, h2 => by
    cases h1
    cases h2
    exact ce.ki_Same_NoSuch
  | 19, C, ns, b, h1, h2 => by
    cases h1
    cases h2
    exact ce.ki_Spent_NoSuch
  | 20, C, ns, b, h1, h2 => by
    cases h1
    cases h2
    exact ce.ki_Twice_NoSuch
  | 21, C, ns, b, h1, h2 => by
    cases h1
    cases h2
    exact ce.ki_TooMany_NoSuch
  | n + 22, C, ns, b, _, h2 => by cases h2
theorem kl_NoStream : ∀ k b, mki_NoStream k = some b → k < 22
  | 0, _, _ => by decide
  | 1, _, _ => by decide
  | 2, _, _ => by decide
  | 3, _, _ => by decide
  | 4, _, _ => by decide
  | 5, _, _ => by decide
  | 6, _, _ => by decide
  | 7, _, _ => by decide
  | 8, _, _ => by decide
  | 9, _, _ => by decide
  | 10, _, _ => by decide
  | 11, _, _ => by decide
  | 12, _, _ => by decide
  | 13, _, _ => by decide
  | 14, _, _ => by decide
  | 15, _, _ => by decide
  | 16, _, _ => by decide
  | 17, _, _ => by decide
  | 18, _, _ => by decide
  | 19, _, _ => by decide
  | 20, _, _ => by decide
  | 21, _, _ => by decide
  | n + 22, b, h => by cases h
theorem ki_NoStream {K : PySem.W.Frag} {mg : Str → Option Value} {cc : Cl} (ce : Ce K mg cc) : ∀ k C ns b, (GG K cc).cls k = some (C, ns) → mki_NoStream k = some b → PySem.W.kitOne K (.ref C) (.ref cc.NoStream) = some b
  | 0, C, ns, b, h1, h2 => by
    cases h1
    cases h2
    exact ce.ki_NoNumber_NoStream
  | 1, C, ns, b, h1, h2 => by
    cases h1
    cases h2
    exact ce.ki_NoPlace_NoStream
  | 2, C, ns, b, h1, h2 => by
    cases h1
    cases h2
    exact ce.ki_NoOrder_NoStream
  | 3, C, ns, b, h1, h2 => by
    cases h1
    cases h2
    exact ce.ki_NoPattern_NoStream
  | 4, C, ns, b, h1, h2 => by
    cases h1
    cases h2
    exact ce.ki_NoLetter_NoStream
  | 5, C, ns, b, h1, h2 => by
    cases h1
    cases h2
    exact ce.ki_NoTicket_NoStream
  | 6, C, ns, b, h1, h2 => by
    cases h1
    cases h2
    exact ce.ki_NoSize_NoStream
  | 7, C, ns, b, h1, h2 => by
    cases h1
    cases h2
    exact ce.ki_NoEnd_NoStream
  | 8, C, ns, b, h1, h2 => by
    cases h1
    cases h2
    exact ce.ki_NoDeed_NoStream
  | 9, C, ns, b, h1, h2 => by
    cases h1
    cases h2
    exact ce.ki_NoText_NoStream
  | 10, C, ns, b, h1, h2 => by
    cases h1
    cases h2
    exact ce.ki_NoRow_NoStream
  | 11, C, ns, b, h1, h2 => by
    cases h1
    cases h2
    exact ce.ki_NoForm_NoStream
  | 12, C, ns, b, h1, h2 => by
    cases h1
    cases h2
    exact ce.ki_Halted_NoStream
  | 13, C, ns, b, h1, h2 => by
    cases h1
    cases h2
    exact ce.ki_NoBack_NoStream
  | 14, C, ns, b, h1, h2 => by
    cases h1
    cases h2
    exact ce.ki_NoSuch_NoStream
  | 15, C, ns, b, h1, h2 => by
    cases h1
    cases h2
    exact ce.ki_NoStream_NoStream
  | 16, C, ns, b, h1, h2 => by
    cases h1
    cases h2
    exact ce.ki_Busy_NoStream
  | 17, C, ns, b, h1, h2 => by
    cases h1
    cases h2
    exact ce.ki_Taken_NoStream
  | 18, C, ns, b, h1, h2 => by
    cases h1
    cases h2
    exact ce.ki_Same_NoStream
  | 19, C, ns, b, h1, h2 => by
    cases h1
    cases h2
    exact ce.ki_Spent_NoStream
  | 20, C, ns, b, h1, h2 => by
    cases h1
    cases h2
    exact ce.ki_Twice_NoStream
  | 21, C, ns, b, h1, h2 => by
    cases h1
    cases h2
    exact ce.ki_TooMany_NoStream
  | n + 22, C, ns, b, _, h2 => by cases h2
theorem kl_Busy : ∀ k b, mki_Busy k = some b → k < 22
  | 0, _, _ => by decide
  | 1, _, _ => by decide
  | 2, _, _ => by decide
  | 3, _, _ => by decide
  | 4, _, _ => by decide
  | 5, _, _ => by decide
  | 6, _, _ => by decide
  | 7, _, _ => by decide
  | 8, _, _ => by decide
  | 9, _, _ => by decide
  | 10, _, _ => by decide
  | 11, _, _ => by decide
  | 12, _, _ => by decide
  | 13, _, _ => by decide
  | 14, _, _ => by decide
  | 15, _, _ => by decide
  | 16, _, _ => by decide
  | 17, _, _ => by decide
  | 18, _, _ => by decide
  | 19, _, _ => by decide
  | 20, _, _ => by decide
  | 21, _, _ => by decide
  | n + 22, b, h => by cases h
theorem ki_Busy {K : PySem.W.Frag} {mg : Str → Option Value} {cc : Cl} (ce : Ce K mg cc) : ∀ k C ns b, (GG K cc).cls k = some (C, ns) → mki_Busy k = some b → PySem.W.kitOne K (.ref C) (.ref cc.Busy) = some b
  | 0, C, ns, b, h1, h2 => by
    cases h1
    cases h2
    exact ce.ki_NoNumber_Busy
  | 1, C, ns, b, h1, h2 => by
    cases h1
    cases h2
    exact ce.ki_NoPlace_Busy
  | 2, C, ns, b, h1, h2 => by
    cases h1
    cases h2
    exact ce.ki_NoOrder_Busy
  | 3, C, ns, b, h1, h2 => by
    cases h1
    cases h2
    exact ce.ki_NoPattern_Busy
  | 4, C, ns, b, h1, h2 => by
    cases h1
    cases h2
    exact ce.ki_NoLetter_Busy
  | 5, C, ns, b, h1, h2 => by
    cases h1
    cases h2
    exact ce.ki_NoTicket_Busy
  | 6, C, ns, b, h1, h2 => by
    cases h1
    cases h2
    exact ce.ki_NoSize_Busy
  | 7, C, ns, b, h1, h2 => by
    cases h1
    cases h2
    exact ce.ki_NoEnd_Busy
  | 8, C, ns, b, h1, h2 => by
    cases h1
    cases h2
    exact ce.ki_NoDeed_Busy
  | 9, C, ns, b, h1, h2 => by
    cases h1
    cases h2
    exact ce.ki_NoText_Busy
  | 10, C, ns, b, h1, h2 => by
    cases h1
    cases h2
    exact ce.ki_NoRow_Busy
  | 11, C, ns, b, h1, h2 => by
    cases h1
    cases h2
    exact ce.ki_NoForm_Busy
  | 12, C, ns, b, h1, h2 => by
    cases h1
    cases h2
    exact ce.ki_Halted_Busy
  | 13, C, ns, b, h1, h2 => by
    cases h1
    cases h2
    exact ce.ki_NoBack_Busy
  | 14, C, ns, b, h1, h2 => by
    cases h1
    cases h2
    exact ce.ki_NoSuch_Busy
  | 15, C, ns, b, h1, h2 => by
    cases h1
    cases h2
    exact ce.ki_NoStream_Busy
  | 16, C, ns, b, h1, h2 => by
    cases h1
    cases h2
    exact ce.ki_Busy_Busy
  | 17, C, ns, b, h1, h2 => by
    cases h1
    cases h2
    exact ce.ki_Taken_Busy
  | 18, C, ns, b, h1, h2 => by
    cases h1
    cases h2
    exact ce.ki_Same_Busy
  | 19, C, ns, b, h1, h2 => by
    cases h1
    cases h2
    exact ce.ki_Spent_Busy
  | 20, C, ns, b, h1, h2 => by
    cases h1
    cases h2
    exact ce.ki_Twice_Busy
  | 21, C, ns, b, h1, h2 => by
    cases h1
    cases h2
    exact ce.ki_TooMany_Busy
  | n + 22, C, ns, b, _, h2 => by cases h2
theorem kl_Taken : ∀ k b, mki_Taken k = some b → k < 22
  | 0, _, _ => by decide
  | 1, _, _ => by decide
  | 2, _, _ => by decide
  | 3, _, _ => by decide
  | 4, _, _ => by decide
  | 5, _, _ => by decide
  | 6, _, _ => by decide
  | 7, _, _ => by decide
  | 8, _, _ => by decide
  | 9, _, _ => by decide
  | 10, _, _ => by decide
  | 11, _, _ => by decide
  | 12, _, _ => by decide
  | 13, _, _ => by decide
  | 14, _, _ => by decide
  | 15, _, _ => by decide
  | 16, _, _ => by decide
  | 17, _, _ => by decide
  | 18, _, _ => by decide
  | 19, _, _ => by decide
  | 20, _, _ => by decide
  | 21, _, _ => by decide
  | n + 22, b, h => by cases h
theorem ki_Taken {K : PySem.W.Frag} {mg : Str → Option Value} {cc : Cl} (ce : Ce K mg cc) : ∀ k C ns b, (GG K cc).cls k = some (C, ns) → mki_Taken k = some b → PySem.W.kitOne K (.ref C) (.ref cc.Taken) = some b
  | 0, C, ns, b, h1, h2 => by
    cases h1
    cases h2
    exact ce.ki_NoNumber_Taken
  | 1, C, ns, b, h1, h2 => by
    cases h1
    cases h2
    exact ce.ki_NoPlace_Taken
  | 2, C, ns, b, h1, h2 => by
    cases h1
    cases h2
    exact ce.ki_NoOrder_Taken
  | 3, C, ns, b, h1, h2 => by
    cases h1
    cases h2
    exact ce.ki_NoPattern_Taken
  | 4, C, ns, b, h1, h2 => by
    cases h1
    cases h2
    exact ce.ki_NoLetter_Taken
  | 5, C, ns, b, h1, h2 => by
    cases h1
    cases h2
    exact ce.ki_NoTicket_Taken
  | 6, C, ns, b, h1, h2 => by
    cases h1
    cases h2
    exact ce.ki_NoSize_Taken
  | 7, C, ns, b, h1, h2 => by
    cases h1
    cases h2
    exact ce.ki_NoEnd_Taken
  | 8, C, ns, b, h1, h2 => by
    cases h1
    cases h2
    exact ce.ki_NoDeed_Taken
  | 9, C, ns, b, h1, h2 => by
    cases h1
    cases h2
    exact ce.ki_NoText_Taken
  | 10, C, ns, b, h1, h2 => by
    cases h1
    cases h2
    exact ce.ki_NoRow_Taken
  | 11, C, ns, b, h1, h2 => by
    cases h1
    cases h2
    exact ce.ki_NoForm_Taken
  | 12, C, ns, b, h1, h2 => by
    cases h1
    cases h2
    exact ce.ki_Halted_Taken
  | 13, C, ns, b, h1, h2 => by
    cases h1
    cases h2
    exact ce.ki_NoBack_Taken
  | 14, C, ns, b, h1, h2 => by
    cases h1
    cases h2
    exact ce.ki_NoSuch_Taken
  | 15, C, ns, b, h1, h2 => by
    cases h1
    cases h2
    exact ce.ki_NoStream_Taken
  | 16, C, ns, b, h1, h2 => by
    cases h1
    cases h2
    exact ce.ki_Busy_Taken
  | 17, C, ns, b, h1, h2 => by
    cases h1
    cases h2
    exact ce.ki_Taken_Taken
  | 18, C, ns, b, h1, h2 => by
    cases h1
    cases h2
    exact ce.ki_Same_Taken
  | 19, C, ns, b, h1, h2 => by
    cases h1
    cases h2
    exact ce.ki_Spent_Taken
  | 20, C, ns, b, h1, h2 => by
    cases h1
    cases h2
    exact ce.ki_Twice_Taken
  | 21, C, ns, b, h1, h2 => by
    cases h1
    cases h2
    exact ce.ki_TooMany_Taken
  | n + 22, C, ns, b, _, h2 => by cases h2
theorem kl_Same : ∀ k b, mki_Same k = some b → k < 22
  | 0, _, _ => by decide
  | 1, _, _ => by decide
  | 2, _, _ => by decide
  | 3, _, _ => by decide
  | 4, _, _ => by decide
  | 5, _, _ => by decide
  | 6, _, _ => by decide
  | 7, _, _ => by decide
  | 8, _, _ => by decide
  | 9, _, _ => by decide
  | 10, _, _ => by decide
  | 11, _, _ => by decide
  | 12, _, _ => by decide
  | 13, _, _ => by decide
  | 14, _, _ => by decide
  | 15, _, _ => by decide
  | 16, _, _ => by decide
  | 17, _, _ => by decide
  | 18, _, _ => by decide
  | 19, _, _ => by decide
  | 20, _, _ => by decide
  | 21, _, _ => by decide
  | n + 22, b, h => by cases h
theorem ki_Same {K : PySem.W.Frag} {mg : Str → Option Value} {cc : Cl} (ce : Ce K mg cc) : ∀ k C ns b, (GG K cc).cls k = some (C, ns) → mki_Same k = some b → PySem.W.kitOne K (.ref C) (.ref cc.Same) = some b
  | 0, C, ns, b, h1, h2 => by
    cases h1
    cases h2
    exact ce.ki_NoNumber_Same
  | 1, C, ns, b, h1, h2 => by
    cases h1
    cases h2
    exact ce.ki_NoPlace_Same
  | 2, C, ns, b, h1, h2 => by
    cases h1
    cases h2
    exact ce.ki_NoOrder_Same
  | 3, C, ns, b, h1, h2 => by
    cases h1
    cases h2
    exact ce.ki_NoPattern_Same
  | 4, C, ns, b, h1, h2 => by
    cases h1
    cases h2
    exact ce.ki_NoLetter_Same
  | 5, C, ns, b, h1, h2 => by
    cases h1
    cases h2
    exact ce.ki_NoTicket_Same
  | 6, C, ns, b, h1, h2 => by
    cases h1
    cases h2
    exact ce.ki_NoSize_Same
  | 7, C, ns, b, h1, h2 => by
    cases h1
    cases h2
    exact ce.ki_NoEnd_Same
  | 8, C, ns, b, h1, h2 => by
    cases h1
    cases h2
    exact ce.ki_NoDeed_Same
  | 9, C, ns, b, h1, h2 => by
    cases h1
    cases h2
    exact ce.ki_NoText_Same
  | 10, C, ns, b, h1, h2 => by
    cases h1
    cases h2
    exact ce.ki_NoRow_Same
  | 11, C, ns, b, h1, h2 => by
    cases h1
    cases h2
    exact ce.ki_NoForm_Same
  | 12, C, ns, b, h1, h2 => by
    cases h1
    cases h2
    exact ce.ki_Halted_Same
  | 13, C, ns, b, h1, h2 => by
    cases h1
    cases h2
    exact ce.ki_NoBack_Same
  | 14, C, ns, b, h1, h2 => by
    cases h1
    cases h2
    exact ce.ki_NoSuch_Same
  | 15, C, ns, b, h1, h2 => by
    cases h1
    cases h2
    exact ce.ki_NoStream_Same
  | 16, C, ns, b, h1, h2 => by
    cases h1
    cases h2
    exact ce.ki_Busy_Same
  | 17, C, ns, b, h1, h2 => by
    cases h1
    cases h2
    exact ce.ki_Taken_Same
  | 18, C, ns, b, h1, h2 => by
    cases h1
    cases h2
    exact ce.ki_Same_Same
  | 19, C, ns, b, h1, h2 => by
    cases h1
    cases h2
    exact ce.ki_Spent_Same
  | 20, C, ns, b, h1, h2 => by
    cases h1
    cases h2
    exact ce.ki_Twice_Same
  | 21, C, ns, b, h1, h2 => by
    cases h1
    cases h2
    exact ce.ki_TooMany_Same
  | n + 22, C, ns, b, _, h2 => by cases h2
theorem kl_Spent : ∀ k b, mki_Spent k = some b → k < 22
  | 0, _, _ => by decide
  | 1, _, _ => by decide
  | 2, _, _ => by decide
  | 3, _, _ => by decide
  | 4, _, _ => by decide
  | 5, _, _ => by decide
  | 6, _, _ => by decide
  | 7, _, _ => by decide
  | 8, _, _ => by decide
  | 9, _, _ => by decide
  | 10, _, _ => by decide
  | 11, _, _ => by decide
  | 12, _, _ => by decide
  | 13, _, _ => by decide
  | 14, _, _ => by decide
  | 15, _, _ => by decide
  | 16, _, _ => by decide
  | 17, _, _ => by decide
  | 18, _, _ => by decide
  | 19, _, _ => by decide
  | 20, _, _ => by decide
  | 21, _, _ => by decide
  | n + 22, b, h => by cases h
theorem ki_Spent {K : PySem.W.Frag} {mg : Str → Option Value} {cc : Cl} (ce : Ce K mg cc) : ∀ k C ns b, (GG K cc).cls k = some (C, ns) → mki_Spent k = some b → PySem.W.kitOne K (.ref C) (.ref cc.Spent) = some b
  | 0, C, ns, b, h1, h2 => by
    cases h1
    cases h2
    exact ce.ki_NoNumber_Spent
  | 1, C, ns, b, h1, h2 => by
    cases h1
    cases h2
    exact ce.ki_NoPlace_Spent
  | 2, C, ns, b, h1, h2 => by
    cases h1
    cases h2
    exact ce.ki_NoOrder_Spent
  | 3, C, ns, b, h1, h2 => by
    cases h1
    cases h2
    exact ce.ki_NoPattern_Spent
  | 4, C, ns, b, h1, h2 => by
    cases h1
    cases h2
    exact ce.ki_NoLetter_Spent
  | 5, C, ns, b, h1, h2 => by
    cases h1
    cases h2
    exact ce.ki_NoTicket_Spent
  | 6, C, ns, b, h1, h2 => by
    cases h1
    cases h2
    exact ce.ki_NoSize_Spent
  | 7, C, ns, b, h1, h2 => by
    cases h1
    cases h2
    exact ce.ki_NoEnd_Spent
  | 8, C, ns, b, h1, h2 => by
    cases h1
    cases h2
    exact ce.ki_NoDeed_Spent
  | 9, C, ns, b, h1, h2 => by
    cases h1
    cases h2
    exact ce.ki_NoText_Spent
  | 10, C, ns, b, h1, h2 => by
    cases h1
    cases h2
    exact ce.ki_NoRow_Spent
  | 11, C, ns, b, h1, h2 => by
    cases h1
    cases h2
    exact ce.ki_NoForm_Spent
  | 12, C, ns, b, h1, h2 => by
    cases h1
    cases h2
    exact ce.ki_Halted_Spent
  | 13, C, ns, b, h1, h2 => by
    cases h1
    cases h2
    exact ce.ki_NoBack_Spent
  | 14, C, ns, b, h1, h2 => by
    cases h1
    cases h2
    exact ce.ki_NoSuch_Spent
  | 15, C, ns, b, h1, h2 => by
    cases h1
    cases h2
    exact ce.ki_NoStream_Spent
  | 16, C, ns, b, h1, h2 => by
    cases h1
    cases h2
    exact ce.ki_Busy_Spent
  | 17, C, ns, b, h1, h2 => by
    cases h1
    cases h2
    exact ce.ki_Taken_Spent
  | 18, C, ns, b, h1, h2 => by
    cases h1
    cases h2
    exact ce.ki_Same_Spent
  | 19, C, ns, b, h1, h2 => by
    cases h1
    cases h2
    exact ce.ki_Spent_Spent
  | 20, C, ns, b, h1, h2 => by
    cases h1
    cases h2
    exact ce.ki_Twice_Spent
  | 21, C, ns, b, h1, h2 => by
    cases h1
    cases h2
    exact ce.ki_TooMany_Spent
  | n + 22, C, ns, b, _, h2 => by cases h2
theorem kl_Twice : ∀ k b, mki_Twice k = some b → k < 22
  | 0, _, _ => by decide
  | 1, _, _ => by decide
  | 2, _, _ => by decide
  | 3, _, _ => by decide
  | 4, _, _ => by decide
  | 5, _, _ => by decide
  | 6, _, _ => by decide
  | 7, _, _ => by decide
  | 8, _, _ => by decide
  | 9, _, _ => by decide
  | 10, _, _ => by decide
  | 11, _, _ => by decide
  | 12, _, _ => by decide
  | 13, _, _ => by decide
  | 14, _, _ => by decide
  | 15, _, _ => by decide
  | 16, _, _ => by decide
  | 17, _, _ => by decide
  | 18, _, _ => by decide
  | 19, _, _ => by decide
  | 20, _, _ => by decide
  | 21, _, _ => by decide
  | n + 22, b, h => by cases h
theorem ki_Twice {K : PySem.W.Frag} {mg : Str → Option Value} {cc : Cl} (ce : Ce K mg cc) : ∀ k C ns b, (GG K cc).cls k = some (C, ns) → mki_Twice k = some b → PySem.W.kitOne K (.ref C) (.ref cc.Twice) = some b
  | 0, C, ns, b, h1, h2 => by
    cases h1
    cases h2
    exact ce.ki_NoNumber_Twice
  | 1, C, ns, b, h1, h2 => by
    cases h1
    cases h2
    exact ce.ki_NoPlace_Twice
  | 2, C, ns, b, h1, h2 => by
    cases h1
    cases h2
    exact ce.ki_NoOrder_Twice
  | 3, C, ns, b, h1, h2 => by
    cases h1
    cases h2
    exact ce.ki_NoPattern_Twice
  | 4, C, ns, b, h1, h2 => by
    cases h1
    cases h2
    exact ce.ki_NoLetter_Twice
  | 5, C, ns, b, h1, h2 => by
    cases h1
    cases h2
    exact ce.ki_NoTicket_Twice
  | 6, C, ns, b, h1, h2 => by
    cases h1
    cases h2
    exact ce.ki_NoSize_Twice
  | 7, C, ns, b, h1, h2 => by
    cases h1
    cases h2
    exact ce.ki_NoEnd_Twice
  | 8, C, ns, b, h1, h2 => by
    cases h1
    cases h2
    exact ce.ki_NoDeed_Twice
  | 9, C, ns, b, h1, h2 => by
    cases h1
    cases h2
    exact ce.ki_NoText_Twice
  | 10, C, ns, b, h1, h2 => by
    cases h1
    cases h2
    exact ce.ki_NoRow_Twice
  | 11, C, ns, b, h1, h2 => by
    cases h1
    cases h2
    exact ce.ki_NoForm_Twice
  | 12, C, ns, b, h1, h2 => by
    cases h1
    cases h2
    exact ce.ki_Halted_Twice
  | 13, C, ns, b, h1, h2 => by
    cases h1
    cases h2
    exact ce.ki_NoBack_Twice
  | 14, C, ns, b, h1, h2 => by
    cases h1
    cases h2
    exact ce.ki_NoSuch_Twice
  | 15, C, ns, b, h1, h2 => by
    cases h1
    cases h2
    exact ce.ki_NoStream_Twice
  | 16, C, ns, b, h1, h2 => by
    cases h1
    cases h2
    exact ce.ki_Busy_Twice
  | 17, C, ns, b, h1, h2 => by
    cases h1
    cases h2
    exact ce.ki_Taken_Twice
  | 18, C, ns, b, h1, h2 => by
    cases h1
    cases h2
    exact ce.ki_Same_Twice
  | 19, C, ns, b, h1, h2 => by
    cases h1
    cases h2
    exact ce.ki_Spent_Twice
  | 20, C, ns, b, h1, h2 => by
    cases h1
    cases h2
    exact ce.ki_Twice_Twice
  | 21, C, ns, b, h1, h2 => by
    cases h1
    cases h2
    exact ce.ki_TooMany_Twice
  | n + 22, C, ns, b, _, h2 => by cases h2
theorem kl_TooMany : ∀ k b, mki_TooMany k = some b → k < 22
  | 0, _, _ => by decide
  | 1, _, _ => by decide
  | 2, _, _ => by decide
  | 3, _, _ => by decide
  | 4, _, _ => by decide
  | 5, _, _ => by decide
  | 6, _, _ => by decide
  | 7, _, _ => by decide
  | 8, _, _ => by decide
  | 9, _, _ => by decide
  | 10, _, _ => by decide
  | 11, _, _ => by decide
  | 12, _, _ => by decide
  | 13, _, _ => by decide
  | 14, _, _ => by decide
  | 15, _, _ => by decide
  | 16, _, _ => by decide
  | 17, _, _ => by decide
  | 18, _, _ => by decide
  | 19, _, _ => by decide
  | 20, _, _ => by decide
  | 21, _, _ => by decide
  | n + 22, b, h => by cases h
theorem ki_TooMany {K : PySem.W.Frag} {mg : Str → Option Value} {cc : Cl} (ce : Ce K mg cc) : ∀ k C ns b, (GG K cc).cls k = some (C, ns) → mki_TooMany k = some b → PySem.W.kitOne K (.ref C) (.ref cc.TooMany) = some b
  | 0, C, ns, b, h1, h2 => by
    cases h1
    cases h2
    exact ce.ki_NoNumber_TooMany
  | 1, C, ns, b, h1, h2 => by
    cases h1
    cases h2
    exact ce.ki_NoPlace_TooMany
  | 2, C, ns, b, h1, h2 => by
    cases h1
    cases h2
    exact ce.ki_NoOrder_TooMany
  | 3, C, ns, b, h1, h2 => by
    cases h1
    cases h2
    exact ce.ki_NoPattern_TooMany
  | 4, C, ns, b, h1, h2 => by
    cases h1
    cases h2
    exact ce.ki_NoLetter_TooMany
  | 5, C, ns, b, h1, h2 => by
    cases h1
    cases h2
    exact ce.ki_NoTicket_TooMany
  | 6, C, ns, b, h1, h2 => by
    cases h1
    cases h2
    exact ce.ki_NoSize_TooMany
  | 7, C, ns, b, h1, h2 => by
    cases h1
    cases h2
    exact ce.ki_NoEnd_TooMany
  | 8, C, ns, b, h1, h2 => by
    cases h1
    cases h2
    exact ce.ki_NoDeed_TooMany
  | 9, C, ns, b, h1, h2 => by
    cases h1
    cases h2
    exact ce.ki_NoText_TooMany
  | 10, C, ns, b, h1, h2 => by
    cases h1
    cases h2
    exact ce.ki_NoRow_TooMany
  | 11, C, ns, b, h1, h2 => by
    cases h1
    cases h2
    exact ce.ki_NoForm_TooMany
  | 12, C, ns, b, h1, h2 => by
    cases h1
    cases h2
    exact ce.ki_Halted_TooMany
  | 13, C, ns, b, h1, h2 => by
    cases h1
    cases h2
    exact ce.ki_NoBack_TooMany
  | 14, C, ns, b, h1, h2 => by
    cases h1
    cases h2
    exact ce.ki_NoSuch_TooMany
  | 15, C, ns, b, h1, h2 => by
    cases h1
    cases h2
    exact ce.ki_NoStream_TooMany
  | 16, C, ns, b, h1, h2 => by
    cases h1
    cases h2
    exact ce.ki_Busy_TooMany
  | 17, C, ns, b, h1, h2 => by
    cases h1
    cases h2
    exact ce.ki_Taken_TooMany
  | 18, C, ns, b, h1, h2 => by
    cases h1
    cases h2
    exact ce.ki_Same_TooMany
  | 19, C, ns, b, h1, h2 => by
    cases h1
    cases h2
    exact ce.ki_Spent_TooMany
  | 20, C, ns, b, h1, h2 => by
    cases h1
    cases h2
    exact ce.ki_Twice_TooMany
  | 21, C, ns, b, h1, h2 => by
    cases h1
    cases h2
    exact ce.ki_TooMany_TooMany
  | n + 22, C, ns, b, _, h2 => by cases h2
theorem kl_RowsError : ∀ k b, mki_RowsError k = some b → k < 22
  | 0, _, _ => by decide
  | 1, _, _ => by decide
  | 2, _, _ => by decide
  | 3, _, _ => by decide
  | 4, _, _ => by decide
  | 5, _, _ => by decide
  | 6, _, _ => by decide
  | 7, _, _ => by decide
  | 8, _, _ => by decide
  | 9, _, _ => by decide
  | 10, _, _ => by decide
  | 11, _, _ => by decide
  | 12, _, _ => by decide
  | 13, _, _ => by decide
  | 14, _, _ => by decide
  | 15, _, _ => by decide
  | 16, _, _ => by decide
  | 17, _, _ => by decide
  | 18, _, _ => by decide
  | 19, _, _ => by decide
  | 20, _, _ => by decide
  | 21, _, _ => by decide
  | n + 22, b, h => by cases h
theorem ki_RowsError {K : PySem.W.Frag} {mg : Str → Option Value} {cc : Cl} (ce : Ce K mg cc) : ∀ k C ns b, (GG K cc).cls k = some (C, ns) → mki_RowsError k = some b → PySem.W.kitOne K (.ref C) (.ref cc.RowsError) = some b
  | 0, C, ns, b, h1, h2 => by
    cases h1
    cases h2
    exact ce.ki_NoNumber_RowsError
  | 1, C, ns, b, h1, h2 => by
    cases h1
    cases h2
    exact ce.ki_NoPlace_RowsError
  | 2, C, ns, b, h1, h2 => by
    cases h1
    cases h2
    exact ce.ki_NoOrder_RowsError
  | 3, C, ns, b, h1, h2 => by
    cases h1
    cases h2
    exact ce.ki_NoPattern_RowsError
  | 4, C, ns, b, h1, h2 => by
    cases h1
    cases h2
    exact ce.ki_NoLetter_RowsError
  | 5, C, ns, b, h1, h2 => by
    cases h1
    cases h2
    exact ce.ki_NoTicket_RowsError
  | 6, C, ns, b, h1, h2 => by
    cases h1
    cases h2
    exact ce.ki_NoSize_RowsError
  | 7, C, ns, b, h1, h2 => by
    cases h1
    cases h2
    exact ce.ki_NoEnd_RowsError
  | 8, C, ns, b, h1, h2 => by
    cases h1
    cases h2
    exact ce.ki_NoDeed_RowsError
  | 9, C, ns, b, h1, h2 => by
    cases h1
    cases h2
    exact ce.ki_NoText_RowsError
  | 10, C, ns, b, h1, h2 => by
    cases h1
    cases h2
    exact ce.ki_NoRow_RowsError
  | 11, C, ns, b, h1, h2 => by
    cases h1
    cases h2
    exact ce.ki_NoForm_RowsError
  | 12, C, ns, b, h1, h2 => by
    cases h1
    cases h2
    exact ce.ki_Halted_RowsError
  | 13, C, ns, b, h1, h2 => by
    cases h1
    cases h2
    exact ce.ki_NoBack_RowsError
  | 14, C, ns, b, h1, h2 => by
    cases h1
    cases h2
    exact ce.ki_NoSuch_RowsError
  | 15, C, ns, b, h1, h2 => by
    cases h1
    cases h2
    exact ce.ki_NoStream_RowsError
  | 16, C, ns, b, h1, h2 => by
    cases h1
    cases h2
    exact ce.ki_Busy_RowsError
  | 17, C, ns, b, h1, h2 => by
    cases h1
    cases h2
    exact ce.ki_Taken_RowsError
  | 18, C, ns, b, h1, h2 => by
    cases h1
    cases h2
    exact ce.ki_Same_RowsError
  | 19, C, ns, b, h1, h2 => by
    cases h1
    cases h2
    exact ce.ki_Spent_RowsError
  | 20, C, ns, b, h1, h2 => by
    cases h1
    cases h2
    exact ce.ki_Twice_RowsError
  | 21, C, ns, b, h1, h2 => by
    cases h1
    cases h2
    exact ce.ki_TooMany_RowsError
  | n + 22, C, ns, b, _, h2 => by cases h2
theorem kl_Absent : ∀ k b, mki_Absent k = some b → k < 22
  | 0, _, _ => by decide
  | 1, _, _ => by decide
  | 2, _, _ => by decide
  | 3, _, _ => by decide
  | 4, _, _ => by decide
  | 5, _, _ => by decide
  | 6, _, _ => by decide
  | 7, _, _ => by decide
  | 8, _, _ => by decide
  | 9, _, _ => by decide
  | 10, _, _ => by decide
  | 11, _, _ => by decide
  | 12, _, _ => by decide
  | 13, _, _ => by decide
  | 14, _, _ => by decide
  | 15, _, _ => by decide
  | 16, _, _ => by decide
  | 17, _, _ => by decide
  | 18, _, _ => by decide
  | 19, _, _ => by decide
  | 20, _, _ => by decide
  | 21, _, _ => by decide
  | n + 22, b, h => by cases h
theorem ki_Absent {K : PySem.W.Frag} {mg : Str → Option Value} {cc : Cl} (ce : Ce K mg cc) : ∀ k C ns b, (GG K cc).cls k = some (C, ns) → mki_Absent k = some b → PySem.W.kitOne K (.ref C) (.ref cc.Absent) = some b
  | 0, C, ns, b, h1, h2 => by
    cases h1
    cases h2
    exact ce.ki_NoNumber_Absent
  | 1, C, ns, b, h1, h2 => by
    cases h1
    cases h2
    exact ce.ki_NoPlace_Absent
  | 2, C, ns, b, h1, h2 => by
    cases h1
    cases h2
    exact ce.ki_NoOrder_Absent
  | 3, C, ns, b, h1, h2 => by
    cases h1
    cases h2
    exact ce.ki_NoPattern_Absent
  | 4, C, ns, b, h1, h2 => by
    cases h1
    cases h2
    exact ce.ki_NoLetter_Absent
  | 5, C, ns, b, h1, h2 => by
    cases h1
    cases h2
    exact ce.ki_NoTicket_Absent
  | 6, C, ns, b, h1, h2 => by
    cases h1
    cases h2
    exact ce.ki_NoSize_Absent
  | 7, C, ns, b, h1, h2 => by
    cases h1
    cases h2
    exact ce.ki_NoEnd_Absent
  | 8, C, ns, b, h1, h2 => by
    cases h1
    cases h2
    exact ce.ki_NoDeed_Absent
  | 9, C, ns, b, h1, h2 => by
    cases h1
    cases h2
    exact ce.ki_NoText_Absent
  | 10, C, ns, b, h1, h2 => by
    cases h1
    cases h2
    exact ce.ki_NoRow_Absent
  | 11, C, ns, b, h1, h2 => by
    cases h1
    cases h2
    exact ce.ki_NoForm_Absent
  | 12, C, ns, b, h1, h2 => by
    cases h1
    cases h2
    exact ce.ki_Halted_Absent
  | 13, C, ns, b, h1, h2 => by
    cases h1
    cases h2
    exact ce.ki_NoBack_Absent
  | 14, C, ns, b, h1, h2 => by
    cases h1
    cases h2
    exact ce.ki_NoSuch_Absent
  | 15, C, ns, b, h1, h2 => by
    cases h1
    cases h2
    exact ce.ki_NoStream_Absent
  | 16, C, ns, b, h1, h2 => by
    cases h1
    cases h2
    exact ce.ki_Busy_Absent
  | 17, C, ns, b, h1, h2 => by
    cases h1
    cases h2
    exact ce.ki_Taken_Absent
  | 18, C, ns, b, h1, h2 => by
    cases h1
    cases h2
    exact ce.ki_Same_Absent
  | 19, C, ns, b, h1, h2 => by
    cases h1
    cases h2
    exact ce.ki_Spent_Absent
  | 20, C, ns, b, h1, h2 => by
    cases h1
    cases h2
    exact ce.ki_Twice_Absent
  | 21, C, ns, b, h1, h2 => by
    cases h1
    cases h2
    exact ce.ki_TooMany_Absent
  | n + 22, C, ns, b, _, h2 => by cases h2
theorem kl_Barred : ∀ k b, mki_Barred k = some b → k < 22
  | 0, _, _ => by decide
  | 1, _, _ => by decide
  | 2, _, _ => by decide
  | 3, _, _ => by decide
  | 4, _, _ => by decide
  | 5, _, _ => by decide
  | 6, _, _ => by decide
  | 7, _, _ => by decide
  | 8, _, _ => by decide
  | 9, _, _ => by decide
  | 10, _, _ => by decide
  | 11, _, _ => by decide
  | 12, _, _ => by decide
  | 13, _, _ => by decide
  | 14, _, _ => by decide
  | 15, _, _ => by decide
  | 16, _, _ => by decide
  | 17, _, _ => by decide
  | 18, _, _ => by decide
  | 19, _, _ => by decide
  | 20, _, _ => by decide
  | 21, _, _ => by decide
  | n + 22, b, h => by cases h
theorem ki_Barred {K : PySem.W.Frag} {mg : Str → Option Value} {cc : Cl} (ce : Ce K mg cc) : ∀ k C ns b, (GG K cc).cls k = some (C, ns) → mki_Barred k = some b → PySem.W.kitOne K (.ref C) (.ref cc.Barred) = some b
  | 0, C, ns, b, h1, h2 => by
    cases h1
    cases h2
    exact ce.ki_NoNumber_Barred
  | 1, C, ns, b, h1, h2 => by
    cases h1
    cases h2
    exact ce.ki_NoPlace_Barred
  | 2, C, ns, b, h1, h2 => by
    cases h1
    cases h2
    exact ce.ki_NoOrder_Barred
  | 3, C, ns, b, h1, h2 => by
    cases h1
    cases h2
    exact ce.ki_NoPattern_Barred
  | 4, C, ns, b, h1, h2 => by
    cases h1
    cases h2
    exact ce.ki_NoLetter_Barred
  | 5, C, ns, b, h1, h2 => by
    cases h1
    cases h2
    exact ce.ki_NoTicket_Barred
  | 6, C, ns, b, h1, h2 => by
    cases h1
    cases h2
    exact ce.ki_NoSize_Barred
  | 7, C, ns, b, h1, h2 => by
    cases h1
    cases h2
    exact ce.ki_NoEnd_Barred
  | 8, C, ns, b, h1, h2 => by
    cases h1
    cases h2
    exact ce.ki_NoDeed_Barred
  | 9, C, ns, b, h1, h2 => by
    cases h1
    cases h2
    exact ce.ki_NoText_Barred
  | 10, C, ns, b, h1, h2 => by
    cases h1
    cases h2
    exact ce.ki_NoRow_Barred
  | 11, C, ns, b, h1, h2 => by
    cases h1
    cases h2
    exact ce.ki_NoForm_Barred
  | 12, C, ns, b, h1, h2 => by
    cases h1
    cases h2
    exact ce.ki_Halted_Barred
  | 13, C, ns, b, h1, h2 => by
    cases h1
    cases h2
    exact ce.ki_NoBack_Barred
  | 14, C, ns, b, h1, h2 => by
    cases h1
    cases h2
    exact ce.ki_NoSuch_Barred
  | 15, C, ns, b, h1, h2 => by
    cases h1
    cases h2
    exact ce.ki_NoStream_Barred
  | 16, C, ns, b, h1, h2 => by
    cases h1
    cases h2
    exact ce.ki_Busy_Barred
  | 17, C, ns, b, h1, h2 => by
    cases h1
    cases h2
    exact ce.ki_Taken_Barred
  | 18, C, ns, b, h1, h2 => by
    cases h1
    cases h2
    exact ce.ki_Same_Barred
  | 19, C, ns, b, h1, h2 => by
    cases h1
    cases h2
    exact ce.ki_Spent_Barred
  | 20, C, ns, b, h1, h2 => by
    cases h1
    cases h2
    exact ce.ki_Twice_Barred
  | 21, C, ns, b, h1, h2 => by
    cases h1
    cases h2
    exact ce.ki_TooMany_Barred
  | n + 22, C, ns, b, _, h2 => by cases h2
theorem kl_ValueError : ∀ k b, mki_ValueError k = some b → k < 22
  | 0, _, _ => by decide
  | 1, _, _ => by decide
  | 2, _, _ => by decide
  | 3, _, _ => by decide
  | 4, _, _ => by decide
  | 5, _, _ => by decide
  | 6, _, _ => by decide
  | 7, _, _ => by decide
  | 8, _, _ => by decide
  | 9, _, _ => by decide
  | 10, _, _ => by decide
  | 11, _, _ => by decide
  | 12, _, _ => by decide
  | 13, _, _ => by decide
  | 14, _, _ => by decide
  | 15, _, _ => by decide
  | 16, _, _ => by decide
  | 17, _, _ => by decide
  | 18, _, _ => by decide
  | 19, _, _ => by decide
  | 20, _, _ => by decide
  | 21, _, _ => by decide
  | n + 22, b, h => by cases h
theorem ki_ValueError {K : PySem.W.Frag} {mg : Str → Option Value} {cc : Cl} (ce : Ce K mg cc) : ∀ k C ns b, (GG K cc).cls k = some (C, ns) → mki_ValueError k = some b → PySem.W.kitOne K (.ref C) (.type "ValueError") = some b
  | 0, C, ns, b, h1, h2 => by
    cases h1
    cases h2
    exact ce.ki_NoNumber_ValueError
  | 1, C, ns, b, h1, h2 => by
    cases h1
    cases h2
    exact ce.ki_NoPlace_ValueError
  | 2, C, ns, b, h1, h2 => by
    cases h1
    cases h2
    exact ce.ki_NoOrder_ValueError
  | 3, C, ns, b, h1, h2 => by
    cases h1
    cases h2
    exact ce.ki_NoPattern_ValueError
  | 4, C, ns, b, h1, h2 => by
    cases h1
    cases h2
    exact ce.ki_NoLetter_ValueError
  | 5, C, ns, b, h1, h2 => by
    cases h1
    cases h2
    exact ce.ki_NoTicket_ValueError
  | 6, C, ns, b, h1, h2 => by
    cases h1
    cases h2
    exact ce.ki_NoSize_ValueError
  | 7, C, ns, b, h1, h2 => by
    cases h1
    cases h2
    exact ce.ki_NoEnd_ValueError
  | 8, C, ns, b, h1, h2 => by
    cases h1
    cases h2
    exact ce.ki_NoDeed_ValueError
  | 9, C, ns, b, h1, h2 => by
    cases h1
    cases h2
    exact ce.ki_NoText_ValueError
  | 10, C, ns, b, h1, h2 => by
    cases h1
    cases h2
    exact ce.ki_NoRow_ValueError
  | 11, C, ns, b, h1, h2 => by
    cases h1
    cases h2
    exact ce.ki_NoForm_ValueError
  | 12, C, ns, b, h1, h2 => by
    cases h1
    cases h2
    exact ce.ki_Halted_ValueError
  | 13, C, ns, b, h1, h2 => by
    cases h1
    cases h2
    exact ce.ki_NoBack_ValueError
  | 14, C, ns, b, h1, h2 => by
    cases h1
    cases h2
    exact ce.ki_NoSuch_ValueError
  | 15, C, ns, b, h1, h2 => by
    cases h1
    cases h2
    exact ce.ki_NoStream_ValueError
  | 16, C, ns, b, h1, h2 => by
    cases h1
    cases h2
    exact ce.ki_Busy_ValueError
  | 17, C, ns, b, h1, h2 => by
    cases h1
    cases h2
    exact ce.ki_Taken_ValueError
  | 18, C, ns, b, h1, h2 => by
    cases h1
    cases h2
    exact ce.ki_Same_ValueError
  | 19, C, ns, b, h1, h2 => by
    cases h1
    cases h2
    exact ce.ki_Spent_ValueError
  | 20, C, ns, b, h1, h2 => by
    cases h1
    cases h2
    exact ce.ki_Twice_ValueError
  | 21, C, ns, b, h1, h2 => by
    cases h1
    cases h2
    exact ce.ki_TooMany_ValueError
  | n + 22, C, ns, b, _, h2 => by cases h2
theorem kl_LookupError : ∀ k b, mki_LookupError k = some b → k < 22
  | 0, _, _ => by decide
  | 1, _, _ => by decide
  | 2, _, _ => by decide
  | 3, _, _ => by decide
  | 4, _, _ => by decide
  | 5, _, _ => by decide
  | 6, _, _ => by decide
  | 7, _, _ => by decide
  | 8, _, _ => by decide
  | 9, _, _ => by decide
  | 10, _, _ => by decide
  | 11, _, _ => by decide
  | 12, _, _ => by decide
  | 13, _, _ => by decide
  | 14, _, _ => by decide
  | 15, _, _ => by decide
  | 16, _, _ => by decide
  | 17, _, _ => by decide
  | 18, _, _ => by decide
  | 19, _, _ => by decide
  | 20, _, _ => by decide
  | 21, _, _ => by decide
  | n + 22, b, h => by cases h
theorem ki_LookupError {K : PySem.W.Frag} {mg : Str → Option Value} {cc : Cl} (ce : Ce K mg cc) : ∀ k C ns b, (GG K cc).cls k = some (C, ns) → mki_LookupError k = some b → PySem.W.kitOne K (.ref C) (.type "LookupError") = some b
  | 0, C, ns, b, h1, h2 => by
    cases h1
    cases h2
    exact ce.ki_NoNumber_LookupError
  | 1, C, ns, b, h1, h2 => by
    cases h1
    cases h2
    exact ce.ki_NoPlace_LookupError
  | 2, C, ns, b, h1, h2 => by
    cases h1
    cases h2
    exact ce.ki_NoOrder_LookupError
  | 3, C, ns, b, h1, h2 => by
    cases h1
    cases h2
    exact ce.ki_NoPattern_LookupError
  | 4, C, ns, b, h1, h2 => by
    cases h1
    cases h2
    exact ce.ki_NoLetter_LookupError
  | 5, C, ns, b, h1, h2 => by
    cases h1
    cases h2
    exact ce.ki_NoTicket_LookupError
  | 6, C, ns, b, h1, h2 => by
    cases h1
    cases h2
    exact ce.ki_NoSize_LookupError
  | 7, C, ns, b, h1, h2 => by
    cases h1
    cases h2
    exact ce.ki_NoEnd_LookupError
  | 8, C, ns, b, h1, h2 => by
    cases h1
    cases h2
    exact ce.ki_NoDeed_LookupError
  | 9, C, ns, b, h1, h2 => by
    cases h1
    cases h2
    exact ce.ki_NoText_LookupError
  | 10, C, ns, b, h1, h2 => by
    cases h1
    cases h2
    exact ce.ki_NoRow_LookupError
  | 11, C, ns, b, h1, h2 => by
    cases h1
    cases h2
    exact ce.ki_NoForm_LookupError
  | 12, C, ns, b, h1, h2 => by
    cases h1
    cases h2
    exact ce.ki_Halted_LookupError
  | 13, C, ns, b, h1, h2 => by
    cases h1
    cases h2
    exact ce.ki_NoBack_LookupError
  | 14, C, ns, b, h1, h2 => by
    cases h1
    cases h2
    exact ce.ki_NoSuch_LookupError
  | 15, C, ns, b, h1, h2 => by
    cases h1
    cases h2
    exact ce.ki_NoStream_LookupError
  | 16, C, ns, b, h1, h2 => by
    cases h1
    cases h2
    exact ce.ki_Busy_LookupError
  | 17, C, ns, b, h1, h2 => by
    cases h1
    cases h2
    exact ce.ki_Taken_LookupError
  | 18, C, ns, b, h1, h2 => by
    cases h1
    cases h2
    exact ce.ki_Same_LookupError
  | 19, C, ns, b, h1, h2 => by
    cases h1
    cases h2
    exact ce.ki_Spent_LookupError
  | 20, C, ns, b, h1, h2 => by
    cases h1
    cases h2
    exact ce.ki_Twice_LookupError
  | 21, C, ns, b, h1, h2 => by
    cases h1
    cases h2
    exact ce.ki_TooMany_LookupError
  | n + 22, C, ns, b, _, h2 => by cases h2
theorem kl_RuntimeError : ∀ k b, mki_RuntimeError k = some b → k < 22
  | 0, _, _ => by decide
  | 1, _, _ => by decide
  | 2, _, _ => by decide
  | 3, _, _ => by decide
  | 4, _, _ => by decide
  | 5, _, _ => by decide
  | 6, _, _ => by decide
  | 7, _, _ => by decide
  | 8, _, _ => by decide
  | 9, _, _ => by decide
  | 10, _, _ => by decide
  | 11, _, _ => by decide
  | 12, _, _ => by decide
  | 13, _, _ => by decide
  | 14, _, _ => by decide
  | 15, _, _ => by decide
  | 16, _, _ => by decide
  | 17, _, _ => by decide
  | 18, _, _ => by decide
  | 19, _, _ => by decide
  | 20, _, _ => by decide
  | 21, _, _ => by decide
  | n + 22, b, h => by cases h
theorem ki_RuntimeError {K : PySem.W.Frag} {mg : Str → Option Value} {cc : Cl} (ce : Ce K mg cc) : ∀ k C ns b, (GG K cc).cls k = some (C, ns) → mki_RuntimeError k = some b → PySem.W.kitOne K (.ref C) (.type "RuntimeError") = some b
  | 0, C, ns, b, h1, h2 => by
    cases h1
    cases h2
    exact ce.ki_NoNumber_RuntimeError
  | 1, C, ns, b, h1, h2 => by
    cases h1
    cases h2
    exact ce.ki_NoPlace_RuntimeError
  | 2, C, ns, b, h1, h2 => by
    cases h1
    cases h2
    exact ce.ki_NoOrder_RuntimeError
  | 3, C, ns, b, h1, h2 => by
    cases h1
    cases h2
    exact ce.ki_NoPattern_RuntimeError
  | 4, C, ns, b, h1, h2 => by
    cases h1
    cases h2
    exact ce.ki_NoLetter_RuntimeError
  | 5, C, ns, b, h1, h2 => by
    cases h1
    cases h2
    exact ce.ki_NoTicket_RuntimeError
  | 6, C, ns, b, h1, h2 => by
    cases h1
    cases h2
    exact ce.ki_NoSize_RuntimeError
  | 7, C, ns, b, h1, h2 => by
    cases h1
    cases h2
    exact ce.ki_NoEnd_RuntimeError
  | 8, C, ns, b, h1, h2 => by
    cases h1
    cases h2
    exact ce.ki_NoDeed_RuntimeError
  | 9, C, ns, b, h1, h2 => by
    cases h1
    cases h2
    exact ce.ki_NoText_RuntimeError
  | 10, C, ns, b, h1, h2 => by
    cases h1
    cases h2
    exact ce.ki_NoRow_RuntimeError
  | 11, C, ns, b, h1, h2 => by
    cases h1
    cases h2
    exact ce.ki_NoForm_RuntimeError
  | 12, C, ns, b, h1, h2 => by
    cases h1
    cases h2
    exact ce.ki_Halted_RuntimeError
  | 13, C, ns, b, h1, h2 => by
    cases h1
    cases h2
    exact ce.ki_NoBack_RuntimeError
  | 14, C, ns, b, h1, h2 => by
    cases h1
    cases h2
    exact ce.ki_NoSuch_RuntimeError
  | 15, C, ns, b, h1, h2 => by
    cases h1
    cases h2
    exact ce.ki_NoStream_RuntimeError
  | 16, C, ns, b, h1, h2 => by
    cases h1
    cases h2
    exact ce.ki_Busy_RuntimeError
  | 17, C, ns, b, h1, h2 => by
    cases h1
    cases h2
    exact ce.ki_Taken_RuntimeError
  | 18, C, ns, b, h1, h2 => by
    cases h1
    cases h2
    exact ce.ki_Same_RuntimeError
  | 19, C, ns, b, h1, h2 => by
    cases h1
    cases h2
    exact ce.ki_Spent_RuntimeError
  | 20, C, ns, b, h1, h2 => by
    cases h1
    cases h2
    exact ce.ki_Twice_RuntimeError
  | 21, C, ns, b, h1, h2 => by
    cases h1
    cases h2
    exact ce.ki_TooMany_RuntimeError
  | n + 22, C, ns, b, _, h2 => by cases h2
theorem kl_ArithmeticError : ∀ k b, mki_ArithmeticError k = some b → k < 22
  | 0, _, _ => by decide
  | 1, _, _ => by decide
  | 2, _, _ => by decide
  | 3, _, _ => by decide
  | 4, _, _ => by decide
  | 5, _, _ => by decide
  | 6, _, _ => by decide
  | 7, _, _ => by decide
  | 8, _, _ => by decide
  | 9, _, _ => by decide
  | 10, _, _ => by decide
  | 11, _, _ => by decide
  | 12, _, _ => by decide
  | 13, _, _ => by decide
  | 14, _, _ => by decide
  | 15, _, _ => by decide
  | 16, _, _ => by decide
  | 17, _, _ => by decide
  | 18, _, _ => by decide
  | 19, _, _ => by decide
  | 20, _, _ => by decide
  | 21, _, _ => by decide
  | n + 22, b, h => by cases h
theorem ki_ArithmeticError {K : PySem.W.Frag} {mg : Str → Option Value} {cc : Cl} (ce : Ce K mg cc) : ∀ k C ns b, (GG K cc).cls k = some (C, ns) → mki_ArithmeticError k = some b → PySem.W.kitOne K (.ref C) (.type "ArithmeticError") = some b
  | 0, C, ns, b, h1, h2 => by
    cases h1
    cases h2
    exact ce.ki_NoNumber_ArithmeticError
  | 1, C, ns, b, h1, h2 => by
    cases h1
    cases h2
    exact ce.ki_NoPlace_ArithmeticError
  | 2, C, ns, b, h1, h2 => by
    cases h1
    cases h2
    exact ce.ki_NoOrder_ArithmeticError
  | 3, C, ns, b, h1, h2 => by
    cases h1
    cases h2
    exact ce.ki_NoPattern_ArithmeticError
  | 4, C, ns, b, h1, h2 => by
    cases h1
    cases h2
    exact ce.ki_NoLetter_ArithmeticError
  | 5, C, ns, b, h1, h2 => by
    cases h1
    cases h2
    exact ce.ki_NoTicket_ArithmeticError
  | 6, C, ns, b, h1, h2 => by
    cases h1
    cases h2
    exact ce.ki_NoSize_ArithmeticError
  | 7, C, ns, b, h1, h2 => by
    cases h1
    cases h2
    exact ce.ki_NoEnd_ArithmeticError
  | 8, C, ns, b, h1, h2 => by
    cases h1
    cases h2
    exact ce.ki_NoDeed_ArithmeticError
  | 9, C, ns, b, h1, h2 => by
    cases h1
    cases h2
    exact ce.ki_NoText_ArithmeticError
  | 10, C, ns, b, h1, h2 => by
    cases h1
    cases h2
    exact ce.ki_NoRow_ArithmeticError
  | 11, C, ns, b, h1, h2 => by
    cases h1
    cases h2
    exact ce.ki_NoForm_ArithmeticError
  | 12, C, ns, b, h1, h2 => by
    cases h1
    cases h2
    exact ce.ki_Halted_ArithmeticError
  | 13, C, ns, b, h1, h2 => by
    cases h1
    cases h2
    exact ce.ki_NoBack_ArithmeticError
  | 14, C, ns, b, h1, h2 => by
    cases h1
    cases h2
    exact ce.ki_NoSuch_ArithmeticError
  | 15, C, ns, b, h1, h2 => by
    cases h1
    cases h2
    exact ce.ki_NoStream_ArithmeticError
  | 16, C, ns, b, h1, h2 => by
    cases h1
    cases h2
    exact ce.ki_Busy_ArithmeticError
  | 17, C, ns, b, h1, h2 => by
    cases h1
    cases h2
    exact ce.ki_Taken_ArithmeticError
  | 18, C, ns, b, h1, h2 => by
    cases h1
    cases h2
    exact ce.ki_Same_ArithmeticError
  | 19, C, ns, b, h1, h2 => by
    cases h1
    cases h2
    exact ce.ki_Spent_ArithmeticError
  | 20, C, ns, b, h1, h2 => by
    cases h1
    cases h2
    exact ce.ki_Twice_ArithmeticError
  | 21, C, ns, b, h1, h2 => by
    cases h1
    cases h2
    exact ce.ki_TooMany_ArithmeticError
  | n + 22, C, ns, b, _, h2 => by cases h2
theorem xf_what {K : PySem.W.Frag} {mg : Str → Option Value} {cc : Cl} (ce : Ce K mg cc) : ∀ k j, mf_what k = some j → ∃ C ns, (GG K cc).cls k = some (C, ns) ∧ XfC (GG K cc).K C ∧ PySem.W.findIn (GG K cc).K (.ref C) "what" = some none ∧ ns.Nodup ∧ ns[j]? = some "what"
  | 0, j, h => by cases h
  | 1, j, h => by cases h
  | 2, j, h => by cases h
  | 3, j, h => by cases h
  | 4, j, h => by cases h
  | 5, j, h => by cases h
  | 6, j, h => by cases h
  | 7, j, h => by cases h
  | 8, j, h => by cases h
  | 9, j, h => by cases h
  | 10, j, h => by cases h
  | 11, j, h => by
    cases h
    exact ⟨_, _, rfl, ⟨ce.eg_NoForm, ce.ek_NoForm, ce.b_NoForm, ce.ed_NoForm⟩, ce.n_NoForm_what, by decide, rfl⟩
  | 12, j, h => by cases h
  | 13, j, h => by cases h
  | 14, j, h => by cases h
  | 15, j, h => by cases h
  | 16, j, h => by cases h
  | 17, j, h => by cases h
  | 18, j, h => by cases h
  | 19, j, h => by cases h
  | 20, j, h => by cases h
  | 21, j, h => by cases h
  | n + 22, j, h => by cases h
theorem xf_number {K : PySem.W.Frag} {mg : Str → Option Value} {cc : Cl} (ce : Ce K mg cc) : ∀ k j, mf_number k = some j → ∃ C ns, (GG K cc).cls k = some (C, ns) ∧ XfC (GG K cc).K C ∧ PySem.W.findIn (GG K cc).K (.ref C) "number" = some none ∧ ns.Nodup ∧ ns[j]? = some "number"
  | 0, j, h => by cases h
  | 1, j, h => by cases h
  | 2, j, h => by cases h
  | 3, j, h => by cases h
  | 4, j, h => by cases h
  | 5, j, h => by cases h
  | 6, j, h => by cases h
  | 7, j, h => by cases h
  | 8, j, h => by cases h
  | 9, j, h => by cases h
  | 10, j, h => by cases h
  | 11, j, h => by cases h
  | 12, j, h => by
    cases h
    exact ⟨_, _, rfl, ⟨ce.eg_Halted, ce.ek_Halted, ce.b_Halted, ce.ed_Halted⟩, ce.n_Halted_number, by decide, rfl⟩
  | 13, j, h => by cases h
  | 14, j, h => by cases h
  | 15, j, h => by cases h
  | 16, j, h => by cases h
  | 17, j, h => by cases h
  | 18, j, h => by cases h
  | 19, j, h => by cases h
  | 20, j, h => by cases h
  | 21, j, h => by cases h
  | n + 22, j, h => by cases h
theorem xf_answers {K : PySem.W.Frag} {mg : Str → Option Value} {cc : Cl} (ce : Ce K mg cc) : ∀ k j, mf_answers k = some j → ∃ C ns, (GG K cc).cls k = some (C, ns) ∧ XfC (GG K cc).K C ∧ PySem.W.findIn (GG K cc).K (.ref C) "answers" = some none ∧ ns.Nodup ∧ ns[j]? = some "answers"
  | 0, j, h => by cases h
  | 1, j, h => by cases h
  | 2, j, h => by cases h
  | 3, j, h => by cases h
  | 4, j, h => by cases h
  | 5, j, h => by cases h
  | 6, j, h => by cases h
  | 7, j, h => by cases h
  | 8, j, h => by cases h
  | 9, j, h => by cases h
  | 10, j, h => by cases h
  | 11, j, h => by cases h
  | 12, j, h => by
    cases h
    exact ⟨_, _, rfl, ⟨ce.eg_Halted, ce.ek_Halted, ce.b_Halted, ce.ed_Halted⟩, ce.n_Halted_answers, by decide, rfl⟩
  | 13, j, h => by cases h
  | 14, j, h => by cases h
  | 15, j, h => by cases h
  | 16, j, h => by cases h
  | 17, j, h => by cases h
  | 18, j, h => by cases h
  | 19, j, h => by cases h
  | 20, j, h => by cases h
  | 21, j, h => by cases h
  | n + 22, j, h => by cases h
theorem xf_name {K : PySem.W.Frag} {mg : Str → Option Value} {cc : Cl} (ce : Ce K mg cc) : ∀ k j, mf_name k = some j → ∃ C ns, (GG K cc).cls k = some (C, ns) ∧ XfC (GG K cc).K C ∧ PySem.W.findIn (GG K cc).K (.ref C) "name" = some none ∧ ns.Nodup ∧ ns[j]? = some "name"
  | 0, j, h => by cases h
  | 1, j, h => by cases h
  | 2, j, h => by cases h
  | 3, j, h => by cases h
  | 4, j, h => by cases h
  | 5, j, h => by cases h
  | 6, j, h => by cases h
  | 7, j, h => by cases h
  | 8, j, h => by cases h
  | 9, j, h => by cases h
  | 10, j, h => by cases h
  | 11, j, h => by cases h
  | 12, j, h => by cases h
  | 13, j, h => by cases h
  | 14, j, h => by
    cases h
    exact ⟨_, _, rfl, ⟨ce.eg_NoSuch, ce.ek_NoSuch, ce.b_NoSuch, ce.ed_NoSuch⟩, ce.n_NoSuch_name, by decide, rfl⟩
  | 15, j, h => by cases h
  | 16, j, h => by cases h
  | 17, j, h => by
    cases h
    exact ⟨_, _, rfl, ⟨ce.eg_Taken, ce.ek_Taken, ce.b_Taken, ce.ed_Taken⟩, ce.n_Taken_name, by decide, rfl⟩
  | 18, j, h => by
    cases h
    exact ⟨_, _, rfl, ⟨ce.eg_Same, ce.ek_Same, ce.b_Same, ce.ed_Same⟩, ce.n_Same_name, by decide, rfl⟩
  | 19, j, h => by cases h
  | 20, j, h => by cases h
  | 21, j, h => by cases h
  | n + 22, j, h => by cases h
theorem xf_letter {K : PySem.W.Frag} {mg : Str → Option Value} {cc : Cl} (ce : Ce K mg cc) : ∀ k j, mf_letter k = some j → ∃ C ns, (GG K cc).cls k = some (C, ns) ∧ XfC (GG K cc).K C ∧ PySem.W.findIn (GG K cc).K (.ref C) "letter" = some none ∧ ns.Nodup ∧ ns[j]? = some "letter"
  | 0, j, h => by cases h
  | 1, j, h => by cases h
  | 2, j, h => by cases h
  | 3, j, h => by cases h
  | 4, j, h => by cases h
  | 5, j, h => by cases h
  | 6, j, h => by cases h
  | 7, j, h => by cases h
  | 8, j, h => by cases h
  | 9, j, h => by cases h
  | 10, j, h => by cases h
  | 11, j, h => by cases h
  | 12, j, h => by cases h
  | 13, j, h => by cases h
  | 14, j, h => by cases h
  | 15, j, h => by
    cases h
    exact ⟨_, _, rfl, ⟨ce.eg_NoStream, ce.ek_NoStream, ce.b_NoStream, ce.ed_NoStream⟩, ce.n_NoStream_letter, by decide, rfl⟩
  | 16, j, h => by cases h
  | 17, j, h => by cases h
  | 18, j, h => by cases h
  | 19, j, h => by
    cases h
    exact ⟨_, _, rfl, ⟨ce.eg_Spent, ce.ek_Spent, ce.b_Spent, ce.ed_Spent⟩, ce.n_Spent_letter, by decide, rfl⟩
  | 20, j, h => by cases h
  | 21, j, h => by cases h
  | n + 22, j, h => by cases h
theorem xf_ticket {K : PySem.W.Frag} {mg : Str → Option Value} {cc : Cl} (ce : Ce K mg cc) : ∀ k j, mf_ticket k = some j → ∃ C ns, (GG K cc).cls k = some (C, ns) ∧ XfC (GG K cc).K C ∧ PySem.W.findIn (GG K cc).K (.ref C) "ticket" = some none ∧ ns.Nodup ∧ ns[j]? = some "ticket"
  | 0, j, h => by cases h
  | 1, j, h => by cases h
  | 2, j, h => by cases h
  | 3, j, h => by cases h
  | 4, j, h => by cases h
  | 5, j, h => by cases h
  | 6, j, h => by cases h
  | 7, j, h => by cases h
  | 8, j, h => by cases h
  | 9, j, h => by cases h
  | 10, j, h => by cases h
  | 11, j, h => by cases h
  | 12, j, h => by cases h
  | 13, j, h => by cases h
  | 14, j, h => by cases h
  | 15, j, h => by cases h
  | 16, j, h => by cases h
  | 17, j, h => by cases h
  | 18, j, h => by cases h
  | 19, j, h => by cases h
  | 20, j, h => by
    cases h
    exact ⟨_, _, rfl, ⟨ce.eg_Twice, ce.ek_Twice, ce.b_Twice, ce.ed_Twice⟩, ce.n_Twice_ticket, by decide, rfl⟩
  | 21, j, h => by cases h
  | n + 22, j, h => by cases h
theorem xf_tickets {K : PySem.W.Frag} {mg : Str → Option Value} {cc : Cl} (ce : Ce K mg cc) : ∀ k j, mf_tickets k = some j → ∃ C ns, (GG K cc).cls k = some (C, ns) ∧ XfC (GG K cc).K C ∧ PySem.W.findIn (GG K cc).K (.ref C) "tickets" = some none ∧ ns.Nodup ∧ ns[j]? = some "tickets"
  | 0, j, h => by cases h
  | 1, j, h => by cases h
  | 2, j, h => by cases h
  | 3, j, h => by cases h
  | 4, j, h => by cases h
  | 5, j, h => by cases h
  | 6, j, h => by cases h
  | 7, j, h => by cases h
  | 8, j, h => by cases h
  | 9, j, h => by cases h
  | 10, j, h => by cases h
  | 11, j, h => by cases h
  | 12, j, h => by cases h
  | 13, j, h => by cases h
  | 14, j, h => by cases h
  | 15, j, h => by cases h
  | 16, j, h => by cases h
  | 17, j, h => by cases h
  | 18, j, h => by cases h
  | 19, j, h => by cases h
  | 20, j, h => by cases h
  | 21, j, h => by
    cases h
    exact ⟨_, _, rfl, ⟨ce.eg_TooMany, ce.ek_TooMany, ce.b_TooMany, ce.ed_TooMany⟩, ce.n_TooMany_tickets, by decide, rfl⟩
  | n + 22, j, h => by cases h
theorem xf_lines {K : PySem.W.Frag} {mg : Str → Option Value} {cc : Cl} (ce : Ce K mg cc) : ∀ k j, mf_lines k = some j → ∃ C ns, (GG K cc).cls k = some (C, ns) ∧ XfC (GG K cc).K C ∧ PySem.W.findIn (GG K cc).K (.ref C) "lines" = some none ∧ ns.Nodup ∧ ns[j]? = some "lines"
  | 0, j, h => by cases h
  | 1, j, h => by cases h
  | 2, j, h => by cases h
  | 3, j, h => by cases h
  | 4, j, h => by cases h
  | 5, j, h => by cases h
  | 6, j, h => by cases h
  | 7, j, h => by cases h
  | 8, j, h => by cases h
  | 9, j, h => by cases h
  | 10, j, h => by cases h
  | 11, j, h => by cases h
  | 12, j, h => by cases h
  | 13, j, h => by cases h
  | 14, j, h => by cases h
  | 15, j, h => by cases h
  | 16, j, h => by cases h
  | 17, j, h => by cases h
  | 18, j, h => by cases h
  | 19, j, h => by cases h
  | 20, j, h => by cases h
  | 21, j, h => by
    cases h
    exact ⟨_, _, rfl, ⟨ce.eg_TooMany, ce.ek_TooMany, ce.b_TooMany, ce.ed_TooMany⟩, ce.n_TooMany_lines, by decide, rfl⟩
  | n + 22, j, h => by cases h
structure Bn (mg : Str → Option Value) : Prop where
  b_len : mg "len" = none
  b_abs : mg "abs" = none
  b_max : mg "max" = none
  b_divmod : mg "divmod" = none
  b_isinstance : mg "isinstance" = none
  b_ValueError : mg "ValueError" = none
  b_LookupError : mg "LookupError" = none
  b_RuntimeError : mg "RuntimeError" = none
  b_ArithmeticError : mg "ArithmeticError" = none
  b_enumerate : mg "enumerate" = none
  b_range : mg "range" = none
  b_int : mg "int" = none
abbrev si_NoForm : Stmt := inClass (topS 13) 0
theorem sci_NoForm : FnScope ["self", "what"] ["self", "what"] (defScope si_NoForm) := ⟨rfl, rfl, rfl, by decide +kernel, rfl, by decide +kernel, by decide +kernel⟩
theorem vi_NoForm_0 {X : Cx} {pos : Pos} (hN : X.N = (["self", "what"] : List Str)) (h : X.env.scope = defScope si_NoForm) : PE X (.Name "self" pos) (tVar 0) := pe_var (by rw [hN]; rfl) (.inl (by rw [h]; decide +kernel))
theorem vi_NoForm_1 {X : Cx} {pos : Pos} (hN : X.N = (["self", "what"] : List Str)) (h : X.env.scope = defScope si_NoForm) : PE X (.Name "what" pos) (tVar 1) := pe_var (by rw [hN]; rfl) (.inl (by rw [h]; decide +kernel))
theorem gi_NoForm {X : Cx} (h : X.env.scope = defScope si_NoForm) : Gl X "RowsError" := by unfold Gl PySem.Env.kindOf; rw [h]; decide +kernel
theorem xn_NoForm {P : Program} {w : World} {K : PySem.W.Frag} {mg : Str → Option Value} {base : Heap} {cc : Cl} (bn : Bn mg) (ce : Ce K mg cc) {fi : Addr} {od an : Option Addr} {sl : Array (Option Value)} {oc kV dc pm cd ct : Value} (lk : K.lookup fi = some ⟨oc, od, .func (PySem.W.fnOf "__init__" "NoForm.__init__" (defArgs si_NoForm) (defBody si_NoForm) (defScope si_NoForm) .none kV dc pm an cd ct), sl⟩) (hcd : PySem.W.codeIn K cd "NoForm.__init__" = true) : FnOk P w K mg base (L2.CX P w) 1 fi (PySem.W.fnOf "__init__" "NoForm.__init__" (defArgs si_NoForm) (defBody si_NoForm) (defScope si_NoForm) .none kV dc pm an cd ct) ["self", "what"] (spI cc.NoForm ["what"]) :=
  fn_of (k := 0) lk hcd sci_NoForm (fun _ _ _ _ h => h.len) fun A outer s H vs Q E hr h => inita1 (D := ⟨fun _ _ => True, fun _ _ => True, fun _ _ => True, fun _ _ => True⟩) ce.o_NoForm ce.n_NoForm_what (ps_expr (pe_aclsInit exB_Value (gi_NoForm rfl) ce.g_RowsError ce.sg_RowsError ce.rd_RowsError ce.fv_RowsError (by decide +kernel) (pa_cons (vi_NoForm_0 rfl rfl) (pa_cons pe_str pa_nil (by rfl)) (by rfl)))) (ps_ast exB_Value (vi_NoForm_0 rfl rfl) (vi_NoForm_1 rfl rfl)) h rfl
abbrev si_Halted : Stmt := inClass (topS 14) 0
theorem sci_Halted : FnScope ["self", "number", "answers"] ["self", "number", "answers"] (defScope si_Halted) := ⟨rfl, rfl, rfl, by decide +kernel, rfl, by decide +kernel, by decide +kernel⟩
theorem vi_Halted_0 {X : Cx} {pos : Pos} (hN : X.N = (["self", "number", "answers"] : List Str)) (h : X.env.scope = defScope si_Halted) : PE X (.Name "self" pos) (tVar 0) := pe_var (by rw [hN]; rfl) (.inl (by rw [h]; decide +kernel))
theorem vi_Halted_1 {X : Cx} {pos : Pos} (hN : X.N = (["self", "number", "answers"] : List Str)) (h : X.env.scope = defScope si_Halted) : PE X (.Name "number" pos) (tVar 1) := pe_var (by rw [hN]; rfl) (.inl (by rw [h]; decide +kernel))
theorem vi_Halted_2 {X : Cx} {pos : Pos} (hN : X.N = (["self", "number", "answers"] : List Str)) (h : X.env.scope = defScope si_Halted) : PE X (.Name "answers" pos) (tVar 2) := pe_var (by rw [hN]; rfl) (.inl (by rw [h]; decide +kernel))
theorem gi_Halted {X : Cx} (h : X.env.scope = defScope si_Halted) : Gl X "RowsError" := by unfold Gl PySem.Env.kindOf; rw [h]; decide +kernel
theorem xn_Halted {P : Program} {w : World} {K : PySem.W.Frag} {mg : Str → Option Value} {base : Heap} {cc : Cl} (bn : Bn mg) (ce : Ce K mg cc) {fi : Addr} {od an : Option Addr} {sl : Array (Option Value)} {oc kV dc pm cd ct : Value} (lk : K.lookup fi = some ⟨oc, od, .func (PySem.W.fnOf "__init__" "Halted.__init__" (defArgs si_Halted) (defBody si_Halted) (defScope si_Halted) .none kV dc pm an cd ct), sl⟩) (hcd : PySem.W.codeIn K cd "Halted.__init__" = true) : FnOk P w K mg base (L2.CX P w) 1 fi (PySem.W.fnOf "__init__" "Halted.__init__" (defArgs si_Halted) (defBody si_Halted) (defScope si_Halted) .none kV dc pm an cd ct) ["self", "number", "answers"] (spI cc.Halted ["number", "answers"]) :=
  fn_of (k := 0) lk hcd sci_Halted (fun _ _ _ _ h => h.len) fun A outer s H vs Q E hr h => inita2 (D := ⟨fun _ _ => True, fun _ _ => True, fun _ _ => True, fun _ _ => True⟩) ce.o_Halted ce.n_Halted_number ce.n_Halted_answers (ps_expr (pe_aclsInit exB_Value (gi_Halted rfl) ce.g_RowsError ce.sg_RowsError ce.rd_RowsError ce.fv_RowsError (by decide +kernel) (pa_cons (vi_Halted_0 rfl rfl) (pa_cons pe_str pa_nil (by rfl)) (by rfl)))) (ps_ast exB_Value (vi_Halted_0 rfl rfl) (vi_Halted_1 rfl rfl)) (ps_ast exB_Value (vi_Halted_0 rfl rfl) (vi_Halted_2 rfl rfl)) h rfl
abbrev si_NoSuch : Stmt := inClass (topS 16) 0
theorem sci_NoSuch : FnScope ["self", "name"] ["self", "name"] (defScope si_NoSuch) := ⟨rfl, rfl, rfl, by decide +kernel, rfl, by decide +kernel, by decide +kernel⟩
theorem vi_NoSuch_0 {X : Cx} {pos : Pos} (hN : X.N = (["self", "name"] : List Str)) (h : X.env.scope = defScope si_NoSuch) : PE X (.Name "self" pos) (tVar 0) := pe_var (by rw [hN]; rfl) (.inl (by rw [h]; decide +kernel))
theorem vi_NoSuch_1 {X : Cx} {pos : Pos} (hN : X.N = (["self", "name"] : List Str)) (h : X.env.scope = defScope si_NoSuch) : PE X (.Name "name" pos) (tVar 1) := pe_var (by rw [hN]; rfl) (.inl (by rw [h]; decide +kernel))
theorem gi_NoSuch {X : Cx} (h : X.env.scope = defScope si_NoSuch) : Gl X "Absent" := by unfold Gl PySem.Env.kindOf; rw [h]; decide +kernel
theorem xn_NoSuch {P : Program} {w : World} {K : PySem.W.Frag} {mg : Str → Option Value} {base : Heap} {cc : Cl} (bn : Bn mg) (ce : Ce K mg cc) {fi : Addr} {od an : Option Addr} {sl : Array (Option Value)} {oc kV dc pm cd ct : Value} (lk : K.lookup fi = some ⟨oc, od, .func (PySem.W.fnOf "__init__" "NoSuch.__init__" (defArgs si_NoSuch) (defBody si_NoSuch) (defScope si_NoSuch) .none kV dc pm an cd ct), sl⟩) (hcd : PySem.W.codeIn K cd "NoSuch.__init__" = true) : FnOk P w K mg base (L2.CX P w) 1 fi (PySem.W.fnOf "__init__" "NoSuch.__init__" (defArgs si_NoSuch) (defBody si_NoSuch) (defScope si_NoSuch) .none kV dc pm an cd ct) ["self", "name"] (spI cc.NoSuch ["name"]) :=
  fn_of (k := 0) lk hcd sci_NoSuch (fun _ _ _ _ h => h.len) fun A outer s H vs Q E hr h => inita1 (D := ⟨fun _ _ => True, fun _ _ => True, fun _ _ => True, fun _ _ => True⟩) ce.o_NoSuch ce.n_NoSuch_name (ps_expr (pe_aclsInit exB_Lookup (gi_NoSuch rfl) ce.g_Absent ce.sg_Absent ce.rd_Absent ce.fv_Absent (by decide +kernel) (pa_cons (vi_NoSuch_0 rfl rfl) (pa_cons pe_str pa_nil (by rfl)) (by rfl)))) (ps_ast exB_Lookup (vi_NoSuch_0 rfl rfl) (vi_NoSuch_1 rfl rfl)) h rfl
abbrev si_NoStream : Stmt := inClass (topS 17) 0
theorem sci_NoStream : FnScope ["self", "letter"] ["self", "letter"] (defScope si_NoStream) := ⟨rfl, rfl, rfl, by decide +kernel, rfl, by decide +kernel, by decide +kernel⟩
theorem vi_NoStream_0 {X : Cx} {pos : Pos} (hN : X.N = (["self", "letter"] : List Str)) (h : X.env.scope = defScope si_NoStream) : PE X (.Name "self" pos) (tVar 0) := pe_var (by rw [hN]; rfl) (.inl (by rw [h]; decide +kernel))
theorem vi_NoStream_1 {X : Cx} {pos : Pos} (hN : X.N = (["self", "letter"] : List Str)) (h : X.env.scope = defScope si_NoStream) : PE X (.Name "letter" pos) (tVar 1) := pe_var (by rw [hN]; rfl) (.inl (by rw [h]; decide +kernel))
theorem gi_NoStream {X : Cx} (h : X.env.scope = defScope si_NoStream) : Gl X "Absent" := by unfold Gl PySem.Env.kindOf; rw [h]; decide +kernel
theorem xn_NoStream {P : Program} {w : World} {K : PySem.W.Frag} {mg : Str → Option Value} {base : Heap} {cc : Cl} (bn : Bn mg) (ce : Ce K mg cc) {fi : Addr} {od an : Option Addr} {sl : Array (Option Value)} {oc kV dc pm cd ct : Value} (lk : K.lookup fi = some ⟨oc, od, .func (PySem.W.fnOf "__init__" "NoStream.__init__" (defArgs si_NoStream) (defBody si_NoStream) (defScope si_NoStream) .none kV dc pm an cd ct), sl⟩) (hcd : PySem.W.codeIn K cd "NoStream.__init__" = true) : FnOk P w K mg base (L2.CX P w) 1 fi (PySem.W.fnOf "__init__" "NoStream.__init__" (defArgs si_NoStream) (defBody si_NoStream) (defScope si_NoStream) .none kV dc pm an cd ct) ["self", "letter"] (spI cc.NoStream ["letter"]) :=
  fn_of (k := 0) lk hcd sci_NoStream (fun _ _ _ _ h => h.len) fun A outer s H vs Q E hr h => inita1 (D := ⟨fun _ _ => True, fun _ _ => True, fun _ _ => True, fun _ _ => True⟩) ce.o_NoStream ce.n_NoStream_letter (ps_expr (pe_aclsInit exB_Lookup (gi_NoStream rfl) ce.g_Absent ce.sg_Absent ce.rd_Absent ce.fv_Absent (by decide +kernel) (pa_cons (vi_NoStream_0 rfl rfl) (pa_cons pe_str pa_nil (by rfl)) (by rfl)))) (ps_ast exB_Lookup (vi_NoStream_0 rfl rfl) (vi_NoStream_1 rfl rfl)) h rfl
abbrev si_Taken : Stmt := inClass (topS 20) 0
theorem sci_Taken : FnScope ["self", "name"] ["self", "name"] (defScope si_Taken) := ⟨rfl, rfl, rfl, by decide +kernel, rfl, by decide +kernel, by decide +kernel⟩
theorem vi_Taken_0 {X : Cx} {pos : Pos} (hN : X.N = (["self", "name"] : List Str)) (h : X.env.scope = defScope si_Taken) : PE X (.Name "self" pos) (tVar 0) := pe_var (by rw [hN]; rfl) (.inl (by rw [h]; decide +kernel))
theorem vi_Taken_1 {X : Cx} {pos : Pos} (hN : X.N = (["self", "name"] : List Str)) (h : X.env.scope = defScope si_Taken) : PE X (.Name "name" pos) (tVar 1) := pe_var (by rw [hN]; rfl) (.inl (by rw [h]; decide +kernel))
theorem gi_Taken {X : Cx} (h : X.env.scope = defScope si_Taken) : Gl X "Barred" := by unfold Gl PySem.Env.kindOf; rw [h]; decide +kernel
theorem xn_Taken {P : Program} {w : World} {K : PySem.W.Frag} {mg : Str → Option Value} {base : Heap} {cc : Cl} (bn : Bn mg) (ce : Ce K mg cc) {fi : Addr} {od an : Option Addr} {sl : Array (Option Value)} {oc kV dc pm cd ct : Value} (lk : K.lookup fi = some ⟨oc, od, .func (PySem.W.fnOf "__init__" "Taken.__init__" (defArgs si_Taken) (defBody si_Taken) (defScope si_Taken) .none kV dc pm an cd ct), sl⟩) (hcd : PySem.W.codeIn K cd "Taken.__init__" = true) : FnOk P w K mg base (L2.CX P w) 1 fi (PySem.W.fnOf "__init__" "Taken.__init__" (defArgs si_Taken) (defBody si_Taken) (defScope si_Taken) .none kV dc pm an cd ct) ["self", "name"] (spI cc.Taken ["name"]) :=
  fn_of (k := 0) lk hcd sci_Taken (fun _ _ _ _ h => h.len) fun A outer s H vs Q E hr h => inita1 (D := ⟨fun _ _ => True, fun _ _ => True, fun _ _ => True, fun _ _ => True⟩) ce.o_Taken ce.n_Taken_name (ps_expr (pe_aclsInit exB_Runtime (gi_Taken rfl) ce.g_Barred ce.sg_Barred ce.rd_Barred ce.fv_Barred (by decide +kernel) (pa_cons (vi_Taken_0 rfl rfl) (pa_cons pe_str pa_nil (by rfl)) (by rfl)))) (ps_ast exB_Runtime (vi_Taken_0 rfl rfl) (vi_Taken_1 rfl rfl)) h rfl
abbrev si_Same : Stmt := inClass (topS 21) 0
theorem sci_Same : FnScope ["self", "name"] ["self", "name"] (defScope si_Same) := ⟨rfl, rfl, rfl, by decide +kernel, rfl, by decide +kernel, by decide +kernel⟩
theorem vi_Same_0 {X : Cx} {pos : Pos} (hN : X.N = (["self", "name"] : List Str)) (h : X.env.scope = defScope si_Same) : PE X (.Name "self" pos) (tVar 0) := pe_var (by rw [hN]; rfl) (.inl (by rw [h]; decide +kernel))
theorem vi_Same_1 {X : Cx} {pos : Pos} (hN : X.N = (["self", "name"] : List Str)) (h : X.env.scope = defScope si_Same) : PE X (.Name "name" pos) (tVar 1) := pe_var (by rw [hN]; rfl) (.inl (by rw [h]; decide +kernel))
theorem gi_Same {X : Cx} (h : X.env.scope = defScope si_Same) : Gl X "Barred" := by unfold Gl PySem.Env.kindOf; rw [h]; decide +kernel
theorem xn_Same {P : Program} {w : World} {K : PySem.W.Frag} {mg : Str → Option Value} {base : Heap} {cc : Cl} (bn : Bn mg) (ce : Ce K mg cc) {fi : Addr} {od an : Option Addr} {sl : Array (Option Value)} {oc kV dc pm cd ct : Value} (lk : K.lookup fi = some ⟨oc, od, .func (PySem.W.fnOf "__init__" "Same.__init__" (defArgs si_Same) (defBody si_Same) (defScope si_Same) .none kV dc pm an cd ct), sl⟩) (hcd : PySem.W.codeIn K cd "Same.__init__" = true) : FnOk P w K mg base (L2.CX P w) 1 fi (PySem.W.fnOf "__init__" "Same.__init__" (defArgs si_Same) (defBody si_Same) (defScope si_Same) .none kV dc pm an cd ct) ["self", "name"] (spI cc.Same ["name"]) :=
  fn_of (k := 0) lk hcd sci_Same (fun _ _ _ _ h => h.len) fun A outer s H vs Q E hr h => inita1 (D := ⟨fun _ _ => True, fun _ _ => True, fun _ _ => True, fun _ _ => True⟩) ce.o_Same ce.n_Same_name (ps_expr (pe_aclsInit exB_Runtime (gi_Same rfl) ce.g_Barred ce.sg_Barred ce.rd_Barred ce.fv_Barred (by decide +kernel) (pa_cons (vi_Same_0 rfl rfl) (pa_cons pe_str pa_nil (by rfl)) (by rfl)))) (ps_ast exB_Runtime (vi_Same_0 rfl rfl) (vi_Same_1 rfl rfl)) h rfl
abbrev si_Spent : Stmt := inClass (topS 22) 0
theorem sci_Spent : FnScope ["self", "letter"] ["self", "letter"] (defScope si_Spent) := ⟨rfl, rfl, rfl, by decide +kernel, rfl, by decide +kernel, by decide +kernel⟩
theorem vi_Spent_0 {X : Cx} {pos : Pos} (hN : X.N = (["self", "letter"] : List Str)) (h : X.env.scope = defScope si_Spent) : PE X (.Name "self" pos) (tVar 0) := pe_var (by rw [hN]; rfl) (.inl (by rw [h]; decide +kernel))
theorem vi_Spent_1 {X : Cx} {pos : Pos} (hN : X.N = (["self", "letter"] : List Str)) (h : X.env.scope = defScope si_Spent) : PE X (.Name "letter" pos) (tVar 1) := pe_var (by rw [hN]; rfl) (.inl (by rw [h]; decide +kernel))
theorem gi_Spent {X : Cx} (h : X.env.scope = defScope si_Spent) : Gl X "Barred" := by unfold Gl PySem.Env.kindOf; rw [h]; decide +kernel
theorem xn_Spent {P : Program} {w : World} {K : PySem.W.Frag} {mg : Str → Option Value} {base : Heap} {cc : Cl} (bn : Bn mg) (ce : Ce K mg cc) {fi : Addr} {od an : Option Addr} {sl : Array (Option Value)} {oc kV dc pm cd ct : Value} (lk : K.lookup fi = some ⟨oc, od, .func (PySem.W.fnOf "__init__" "Spent.__init__" (defArgs si_Spent) (defBody si_Spent) (defScope si_Spent) .none kV dc pm an cd ct), sl⟩) (hcd : PySem.W.codeIn K cd "Spent.__init__" = true) : FnOk P w K mg base (L2.CX P w) 1 fi (PySem.W.fnOf "__init__" "Spent.__init__" (defArgs si_Spent) (defBody si_Spent) (defScope si_Spent) .none kV dc pm an cd ct) ["self", "letter"] (spI cc.Spent ["letter"]) :=
  fn_of (k := 0) lk hcd sci_Spent (fun _ _ _ _ h => h.len) fun A outer s H vs Q E hr h => inita1 (D := ⟨fun _ _ => True, fun _ _ => True, fun _ _ => True, fun _ _ => True⟩) ce.o_Spent ce.n_Spent_letter (ps_expr (pe_aclsInit exB_Runtime (gi_Spent rfl) ce.g_Barred ce.sg_Barred ce.rd_Barred ce.fv_Barred (by decide +kernel) (pa_cons (vi_Spent_0 rfl rfl) (pa_cons pe_str pa_nil (by rfl)) (by rfl)))) (ps_ast exB_Runtime (vi_Spent_0 rfl rfl) (vi_Spent_1 rfl rfl)) h rfl
abbrev si_Twice : Stmt := inClass (topS 23) 0
theorem sci_Twice : FnScope ["self", "ticket"] ["self", "ticket"] (defScope si_Twice) := ⟨rfl, rfl, rfl, by decide +kernel, rfl, by decide +kernel, by decide +kernel⟩
theorem vi_Twice_0 {X : Cx} {pos : Pos} (hN : X.N = (["self", "ticket"] : List Str)) (h : X.env.scope = defScope si_Twice) : PE X (.Name "self" pos) (tVar 0) := pe_var (by rw [hN]; rfl) (.inl (by rw [h]; decide +kernel))
theorem vi_Twice_1 {X : Cx} {pos : Pos} (hN : X.N = (["self", "ticket"] : List Str)) (h : X.env.scope = defScope si_Twice) : PE X (.Name "ticket" pos) (tVar 1) := pe_var (by rw [hN]; rfl) (.inl (by rw [h]; decide +kernel))
theorem gi_Twice {X : Cx} (h : X.env.scope = defScope si_Twice) : Gl X "Barred" := by unfold Gl PySem.Env.kindOf; rw [h]; decide +kernel
theorem xn_Twice {P : Program} {w : World} {K : PySem.W.Frag} {mg : Str → Option Value} {base : Heap} {cc : Cl} (bn : Bn mg) (ce : Ce K mg cc) {fi : Addr} {od an : Option Addr} {sl : Array (Option Value)} {oc kV dc pm cd ct : Value} (lk : K.lookup fi = some ⟨oc, od, .func (PySem.W.fnOf "__init__" "Twice.__init__" (defArgs si_Twice) (defBody si_Twice) (defScope si_Twice) .none kV dc pm an cd ct), sl⟩) (hcd : PySem.W.codeIn K cd "Twice.__init__" = true) : FnOk P w K mg base (L2.CX P w) 1 fi (PySem.W.fnOf "__init__" "Twice.__init__" (defArgs si_Twice) (defBody si_Twice) (defScope si_Twice) .none kV dc pm an cd ct) ["self", "ticket"] (spI cc.Twice ["ticket"]) :=
  fn_of (k := 0) lk hcd sci_Twice (fun _ _ _ _ h => h.len) fun A outer s H vs Q E hr h => inita1 (D := ⟨fun _ _ => True, fun _ _ => True, fun _ _ => True, fun _ _ => True⟩) ce.o_Twice ce.n_Twice_ticket (ps_expr (pe_aclsInit exB_Runtime (gi_Twice rfl) ce.g_Barred ce.sg_Barred ce.rd_Barred ce.fv_Barred (by decide +kernel) (pa_cons (vi_Twice_0 rfl rfl) (pa_cons pe_str pa_nil (by rfl)) (by rfl)))) (ps_ast exB_Runtime (vi_Twice_0 rfl rfl) (vi_Twice_1 rfl rfl)) h rfl
abbrev si_TooMany : Stmt := inClass (topS 25) 0
theorem sci_TooMany : FnScope ["self", "tickets", "lines"] ["self", "tickets", "lines"] (defScope si_TooMany) := ⟨rfl, rfl, rfl, by decide +kernel, rfl, by decide +kernel, by decide +kernel⟩
theorem vi_TooMany_0 {X : Cx} {pos : Pos} (hN : X.N = (["self", "tickets", "lines"] : List Str)) (h : X.env.scope = defScope si_TooMany) : PE X (.Name "self" pos) (tVar 0) := pe_var (by rw [hN]; rfl) (.inl (by rw [h]; decide +kernel))
theorem vi_TooMany_1 {X : Cx} {pos : Pos} (hN : X.N = (["self", "tickets", "lines"] : List Str)) (h : X.env.scope = defScope si_TooMany) : PE X (.Name "tickets" pos) (tVar 1) := pe_var (by rw [hN]; rfl) (.inl (by rw [h]; decide +kernel))
theorem vi_TooMany_2 {X : Cx} {pos : Pos} (hN : X.N = (["self", "tickets", "lines"] : List Str)) (h : X.env.scope = defScope si_TooMany) : PE X (.Name "lines" pos) (tVar 2) := pe_var (by rw [hN]; rfl) (.inl (by rw [h]; decide +kernel))
theorem gi_TooMany {X : Cx} (h : X.env.scope = defScope si_TooMany) : Gl X "ArithmeticError" := by unfold Gl PySem.Env.kindOf; rw [h]; decide +kernel
theorem xn_TooMany {P : Program} {w : World} {K : PySem.W.Frag} {mg : Str → Option Value} {base : Heap} {cc : Cl} (bn : Bn mg) (ce : Ce K mg cc) {fi : Addr} {od an : Option Addr} {sl : Array (Option Value)} {oc kV dc pm cd ct : Value} (lk : K.lookup fi = some ⟨oc, od, .func (PySem.W.fnOf "__init__" "TooMany.__init__" (defArgs si_TooMany) (defBody si_TooMany) (defScope si_TooMany) .none kV dc pm an cd ct), sl⟩) (hcd : PySem.W.codeIn K cd "TooMany.__init__" = true) : FnOk P w K mg base (L2.CX P w) 1 fi (PySem.W.fnOf "__init__" "TooMany.__init__" (defArgs si_TooMany) (defBody si_TooMany) (defScope si_TooMany) .none kV dc pm an cd ct) ["self", "tickets", "lines"] (spI cc.TooMany ["tickets", "lines"]) :=
  fn_of (k := 0) lk hcd sci_TooMany (fun _ _ _ _ h => h.len) fun A outer s H vs Q E hr h => inita2 (D := ⟨fun _ _ => True, fun _ _ => True, fun _ _ => True, fun _ _ => True⟩) ce.o_TooMany ce.n_TooMany_tickets ce.n_TooMany_lines (ps_expr (pe_aeinit (gi_TooMany rfl) bn.b_ArithmeticError ce.fv_ArithmeticError (pa_cons (vi_TooMany_0 rfl rfl) (pa_cons pe_str pa_nil (by rfl)) (by rfl)))) (ps_ast exB_Arith (vi_TooMany_0 rfl rfl) (vi_TooMany_1 rfl rfl)) (ps_ast exB_Arith (vi_TooMany_0 rfl rfl) (vi_TooMany_2 rfl rfl)) h rfl
abbrev s_L_pot : Stmt := topS 27
abbrev N_L_pot : List Str := ["_law_script", "_law_k", "_law_cell"]
theorem sc_L_pot : FnScope N_L_pot ["_law_script", "_law_k"] (defScope s_L_pot) := ⟨rfl, rfl, rfl, by decide +kernel, rfl, by decide +kernel, by decide +kernel⟩
theorem kl_L_pot_0 {X : Cx} (h : X.env.scope = defScope s_L_pot) : X.env.scope.names.lookup ("_law_script" : Str) = some .local := by rw [h]; decide +kernel
theorem nv_L_pot_0 {X : Cx} {pos : Pos} (hN : X.N = N_L_pot) (h : X.env.scope = defScope s_L_pot) : PE X (.Name "_law_script" pos) (tVar 0) := pe_var (by rw [hN]; rfl) (.inl (kl_L_pot_0 h))
theorem kl_L_pot_1 {X : Cx} (h : X.env.scope = defScope s_L_pot) : X.env.scope.names.lookup ("_law_k" : Str) = some .local := by rw [h]; decide +kernel
theorem nv_L_pot_1 {X : Cx} {pos : Pos} (hN : X.N = N_L_pot) (h : X.env.scope = defScope s_L_pot) : PE X (.Name "_law_k" pos) (tVar 1) := pe_var (by rw [hN]; rfl) (.inl (kl_L_pot_1 h))
theorem kl_L_pot_2 {X : Cx} (h : X.env.scope = defScope s_L_pot) : X.env.scope.names.lookup ("_law_cell" : Str) = some .local := by rw [h]; decide +kernel
theorem lc_L_pot_2 {X : Cx} (h : X.env.scope = defScope s_L_pot) : Loc X.env.scope "_law_cell" := .inl (kl_L_pot_2 h)
theorem nv_L_pot_2 {X : Cx} {pos : Pos} (hN : X.N = N_L_pot) (h : X.env.scope = defScope s_L_pot) : PE X (.Name "_law_cell" pos) (tVar 2) := pe_var (by rw [hN]; rfl) (.inl (kl_L_pot_2 h))
theorem gl_L_pot_abs {X : Cx} (h : X.env.scope = defScope s_L_pot) : Gl X "abs" := by unfold Gl PySem.Env.kindOf; rw [h]; decide +kernel
theorem gl_L_pot_len {X : Cx} (h : X.env.scope = defScope s_L_pot) : Gl X "len" := by unfold Gl PySem.Env.kindOf; rw [h]; decide +kernel
theorem gl_L_pot_max {X : Cx} (h : X.env.scope = defScope s_L_pot) : Gl X "max" := by unfold Gl PySem.Env.kindOf; rw [h]; decide +kernel
theorem der_L_pot {P : Program} {w : World} {K : PySem.W.Frag} {mg : Str → Option Value} {base : Heap} {cc : Cl} (bn : Bn mg) (cn : Cn mg) (ce : Ce K mg cc)  {f : Addr} (cdv : Value) (A : Around) (outer : List PySem.Env) (s : Shared) (H : Hp) (E : XK) (hr : Room 0 (A.deeper (envOfC "_law_pot" (defScope s_L_pot) s.heap.objs.size f cdv))) (hg : A.guards = some []) :
    PSs (cxOf (L2.CX P w) P w K mg base N_L_pot "_law_pot" (defScope s_L_pot) f cdv A outer s H E) (defBody s_L_pot) (tEx (GG K cc) XR0 (fun c d _ H => E c d H) [] g_L_pot) := by
  have B : Bx (GG K cc) (fun c d _ H => E c d H) 0 (cxOf (L2.CX P w) P w K mg base N_L_pot "_law_pot" (defScope s_L_pot) f cdv A outer s H E) := Bx.of rfl sc_L_pot.nd hr hg
  unfold g_L_pot
  exact (es_cons (es_set (i := 2) B.nd rfl (lc_L_pot_2 rfl) ev_int) (es_cons (es_if (et_cmp op_lt o_lt (ev_name (nv_L_pot_1 rfl rfl)) (ev_callB1 call_lenAll o_len (gl_L_pot_len rfl) bn.b_len (by decide +kernel) (ev_name (nv_L_pot_0 rfl rfl))) (nomark _)) (es_one (es_set (i := 2) B.nd rfl (lc_L_pot_2 rfl) (ev_ix ix_seq o_ix (ev_name (nv_L_pot_0 rfl rfl)) (ev_name (nv_L_pot_1 rfl rfl)) (fun _ _ => rfl)))) es_nil) (es_one (es_ret (ev_lst (ea_cons (ev_callB2 (call_max2 B.calm) o_max (gl_L_pot_max rfl) bn.b_max (by decide +kernel) ev_int (ev_op op_sub o_sub (ev_callB1 call_abs o_abs (gl_L_pot_abs rfl) bn.b_abs (by decide +kernel) (ev_name (nv_L_pot_2 rfl rfl))) (ev_op op_pow o_pow ev_int ev_int))) (ea_cons (ev_op op_mod o_mod (ev_op op_addAll o_add (ev_op op_addAll o_add (ev_op op_mulW o_mul (ev_op op_mod o_mod (ev_callB1 call_abs o_abs (gl_L_pot_abs rfl) bn.b_abs (by decide +kernel) (ev_name (nv_L_pot_2 rfl rfl))) ev_int) ev_int) (ev_op op_mulW o_mul ev_int (ev_name (nv_L_pot_1 rfl rfl)))) ev_int) ev_int) ea_nil)))))))
abbrev s_L_digit : Stmt := topS 28
abbrev N_L_digit : List Str := ["_law_pot_here", "_law_many", "_law_digit_here"]
theorem sc_L_digit : FnScope N_L_digit ["_law_pot_here", "_law_many"] (defScope s_L_digit) := ⟨rfl, rfl, rfl, by decide +kernel, rfl, by decide +kernel, by decide +kernel⟩
theorem kl_L_digit_0 {X : Cx} (h : X.env.scope = defScope s_L_digit) : X.env.scope.names.lookup ("_law_pot_here" : Str) = some .local := by rw [h]; decide +kernel
theorem nv_L_digit_0 {X : Cx} {pos : Pos} (hN : X.N = N_L_digit) (h : X.env.scope = defScope s_L_digit) : PE X (.Name "_law_pot_here" pos) (tVar 0) := pe_var (by rw [hN]; rfl) (.inl (kl_L_digit_0 h))
theorem kl_L_digit_1 {X : Cx} (h : X.env.scope = defScope s_L_digit) : X.env.scope.names.lookup ("_law_many" : Str) = some .local := by rw [h]; decide +kernel
theorem nv_L_digit_1 {X : Cx} {pos : Pos} (hN : X.N = N_L_digit) (h : X.env.scope = defScope s_L_digit) : PE X (.Name "_law_many" pos) (tVar 1) := pe_var (by rw [hN]; rfl) (.inl (kl_L_digit_1 h))
theorem kl_L_digit_2 {X : Cx} (h : X.env.scope = defScope s_L_digit) : X.env.scope.names.lookup ("_law_digit_here" : Str) = some .local := by rw [h]; decide +kernel
theorem lc_L_digit_2 {X : Cx} (h : X.env.scope = defScope s_L_digit) : Loc X.env.scope "_law_digit_here" := .inl (kl_L_digit_2 h)
theorem nv_L_digit_2 {X : Cx} {pos : Pos} (hN : X.N = N_L_digit) (h : X.env.scope = defScope s_L_digit) : PE X (.Name "_law_digit_here" pos) (tVar 2) := pe_var (by rw [hN]; rfl) (.inl (kl_L_digit_2 h))
theorem gl_L_digit_divmod {X : Cx} (h : X.env.scope = defScope s_L_digit) : Gl X "divmod" := by unfold Gl PySem.Env.kindOf; rw [h]; decide +kernel
theorem der_L_digit {P : Program} {w : World} {K : PySem.W.Frag} {mg : Str → Option Value} {base : Heap} {cc : Cl} (bn : Bn mg) (cn : Cn mg) (ce : Ce K mg cc)  {f : Addr} (cdv : Value) (A : Around) (outer : List PySem.Env) (s : Shared) (H : Hp) (E : XK) (hr : Room 0 (A.deeper (envOfC "_law_digit" (defScope s_L_digit) s.heap.objs.size f cdv))) (hg : A.guards = some []) :
    PSs (cxOf (L2.CX P w) P w K mg base N_L_digit "_law_digit" (defScope s_L_digit) f cdv A outer s H E) (defBody s_L_digit) (tEx (GG K cc) XR0 (fun c d _ H => E c d H) [0] g_L_digit) := by
  have B : Bx (GG K cc) (fun c d _ H => E c d H) 0 (cxOf (L2.CX P w) P w K mg base N_L_digit "_law_digit" (defScope s_L_digit) f cdv A outer s H E) := Bx.of rfl sc_L_digit.nd hr hg
  unfold g_L_digit
  exact (es_cons (es_if (et_cmp op_gt o_gt (ev_ix ix_seq o_ix (ev_name (nv_L_digit_0 rfl rfl)) ev_int (fun _ _ => rfl)) ev_int (nomark _)) (es_cons (es_asg (ev_callB2 call_divmodF o_divmod (gl_L_digit_divmod rfl) bn.b_divmod (by decide +kernel) (ev_ix ix_seq o_ix (ev_name (nv_L_digit_0 rfl rfl)) ev_int (fun _ _ => rfl)) (ev_name (nv_L_digit_1 rfl rfl))) (eg_tup B.calm B.kk (egs_cons (eg_sub (nv_L_digit_0 rfl rfl) ev_int) (egs_cons (eg_name (pg_name (i := 2) B.nd rfl (lc_L_digit_2 rfl))) egs_nil)))) (es_one (es_ret (ev_name (nv_L_digit_2 rfl rfl))))) es_nil) (es_cons (es_asg (ev_op op_mod o_mod (ev_op op_addAll o_add (ev_op op_mulW o_mul (ev_ix ix_seq o_ix (ev_name (nv_L_digit_0 rfl rfl)) ev_int (fun _ _ => rfl)) ev_int) ev_int) ev_int) (eg_sub (nv_L_digit_0 rfl rfl) ev_int)) (es_one (es_ret (ev_op op_mod o_mod (ev_op op_fdivW o_div (ev_op op_mod o_mod (ev_op op_mulW o_mul (ev_ix ix_seq o_ix (ev_name (nv_L_digit_0 rfl rfl)) ev_int (fun _ _ => rfl)) (ev_ix ix_seq o_ix (ev_name (nv_L_digit_0 rfl rfl)) ev_int (fun _ _ => rfl))) ev_int) ev_int) (ev_name (nv_L_digit_1 rfl rfl)))))))
abbrev s_L_kinds : Stmt := topS 29
abbrev N_L_kinds : List Str := ["_law_e", "_law_some"]
theorem sc_L_kinds : FnScope N_L_kinds ["_law_e"] (defScope s_L_kinds) := ⟨rfl, rfl, rfl, by decide +kernel, rfl, by decide +kernel, by decide +kernel⟩
theorem kl_L_kinds_0 {X : Cx} (h : X.env.scope = defScope s_L_kinds) : X.env.scope.names.lookup ("_law_e" : Str) = some .local := by rw [h]; decide +kernel
theorem nv_L_kinds_0 {X : Cx} {pos : Pos} (hN : X.N = N_L_kinds) (h : X.env.scope = defScope s_L_kinds) : PE X (.Name "_law_e" pos) (tVar 0) := pe_var (by rw [hN]; rfl) (.inl (kl_L_kinds_0 h))
theorem kl_L_kinds_1 {X : Cx} (h : X.env.scope = defScope s_L_kinds) : X.env.scope.names.lookup ("_law_some" : Str) = some .local := by rw [h]; decide +kernel
theorem lc_L_kinds_1 {X : Cx} (h : X.env.scope = defScope s_L_kinds) : Loc X.env.scope "_law_some" := .inl (kl_L_kinds_1 h)
theorem nv_L_kinds_1 {X : Cx} {pos : Pos} (hN : X.N = N_L_kinds) (h : X.env.scope = defScope s_L_kinds) : PE X (.Name "_law_some" pos) (tVar 1) := pe_var (by rw [hN]; rfl) (.inl (kl_L_kinds_1 h))
theorem gl_L_kinds_Busy {X : Cx} (h : X.env.scope = defScope s_L_kinds) : Gl X "Busy" := by unfold Gl PySem.Env.kindOf; rw [h]; decide +kernel
theorem gl_L_kinds_Halted {X : Cx} (h : X.env.scope = defScope s_L_kinds) : Gl X "Halted" := by unfold Gl PySem.Env.kindOf; rw [h]; decide +kernel
theorem gl_L_kinds_NoBack {X : Cx} (h : X.env.scope = defScope s_L_kinds) : Gl X "NoBack" := by unfold Gl PySem.Env.kindOf; rw [h]; decide +kernel
theorem gl_L_kinds_NoDeed {X : Cx} (h : X.env.scope = defScope s_L_kinds) : Gl X "NoDeed" := by unfold Gl PySem.Env.kindOf; rw [h]; decide +kernel
theorem gl_L_kinds_NoEnd {X : Cx} (h : X.env.scope = defScope s_L_kinds) : Gl X "NoEnd" := by unfold Gl PySem.Env.kindOf; rw [h]; decide +kernel
theorem gl_L_kinds_NoForm {X : Cx} (h : X.env.scope = defScope s_L_kinds) : Gl X "NoForm" := by unfold Gl PySem.Env.kindOf; rw [h]; decide +kernel
theorem gl_L_kinds_NoLetter {X : Cx} (h : X.env.scope = defScope s_L_kinds) : Gl X "NoLetter" := by unfold Gl PySem.Env.kindOf; rw [h]; decide +kernel
theorem gl_L_kinds_NoNumber {X : Cx} (h : X.env.scope = defScope s_L_kinds) : Gl X "NoNumber" := by unfold Gl PySem.Env.kindOf; rw [h]; decide +kernel
theorem gl_L_kinds_NoOrder {X : Cx} (h : X.env.scope = defScope s_L_kinds) : Gl X "NoOrder" := by unfold Gl PySem.Env.kindOf; rw [h]; decide +kernel
theorem gl_L_kinds_NoPattern {X : Cx} (h : X.env.scope = defScope s_L_kinds) : Gl X "NoPattern" := by unfold Gl PySem.Env.kindOf; rw [h]; decide +kernel
theorem gl_L_kinds_NoPlace {X : Cx} (h : X.env.scope = defScope s_L_kinds) : Gl X "NoPlace" := by unfold Gl PySem.Env.kindOf; rw [h]; decide +kernel
theorem gl_L_kinds_NoRow {X : Cx} (h : X.env.scope = defScope s_L_kinds) : Gl X "NoRow" := by unfold Gl PySem.Env.kindOf; rw [h]; decide +kernel
theorem gl_L_kinds_NoSize {X : Cx} (h : X.env.scope = defScope s_L_kinds) : Gl X "NoSize" := by unfold Gl PySem.Env.kindOf; rw [h]; decide +kernel
theorem gl_L_kinds_NoStream {X : Cx} (h : X.env.scope = defScope s_L_kinds) : Gl X "NoStream" := by unfold Gl PySem.Env.kindOf; rw [h]; decide +kernel
theorem gl_L_kinds_NoSuch {X : Cx} (h : X.env.scope = defScope s_L_kinds) : Gl X "NoSuch" := by unfold Gl PySem.Env.kindOf; rw [h]; decide +kernel
theorem gl_L_kinds_NoText {X : Cx} (h : X.env.scope = defScope s_L_kinds) : Gl X "NoText" := by unfold Gl PySem.Env.kindOf; rw [h]; decide +kernel
theorem gl_L_kinds_NoTicket {X : Cx} (h : X.env.scope = defScope s_L_kinds) : Gl X "NoTicket" := by unfold Gl PySem.Env.kindOf; rw [h]; decide +kernel
theorem gl_L_kinds_Same {X : Cx} (h : X.env.scope = defScope s_L_kinds) : Gl X "Same" := by unfold Gl PySem.Env.kindOf; rw [h]; decide +kernel
theorem gl_L_kinds_Spent {X : Cx} (h : X.env.scope = defScope s_L_kinds) : Gl X "Spent" := by unfold Gl PySem.Env.kindOf; rw [h]; decide +kernel
theorem gl_L_kinds_Taken {X : Cx} (h : X.env.scope = defScope s_L_kinds) : Gl X "Taken" := by unfold Gl PySem.Env.kindOf; rw [h]; decide +kernel
theorem gl_L_kinds_TooMany {X : Cx} (h : X.env.scope = defScope s_L_kinds) : Gl X "TooMany" := by unfold Gl PySem.Env.kindOf; rw [h]; decide +kernel
theorem gl_L_kinds_Twice {X : Cx} (h : X.env.scope = defScope s_L_kinds) : Gl X "Twice" := by unfold Gl PySem.Env.kindOf; rw [h]; decide +kernel
theorem gl_L_kinds_isinstance {X : Cx} (h : X.env.scope = defScope s_L_kinds) : Gl X "isinstance" := by unfold Gl PySem.Env.kindOf; rw [h]; decide +kernel
theorem der_L_kinds {P : Program} {w : World} {K : PySem.W.Frag} {mg : Str → Option Value} {base : Heap} {cc : Cl} (bn : Bn mg) (cn : Cn mg) (ce : Ce K mg cc)  {f : Addr} (cdv : Value) (A : Around) (outer : List PySem.Env) (s : Shared) (H : Hp) (E : XK) (hr : Room 0 (A.deeper (envOfC "_law_kinds" (defScope s_L_kinds) s.heap.objs.size f cdv))) (hg : A.guards = some []) :
    PSs (cxOf (L2.CX P w) P w K mg base N_L_kinds "_law_kinds" (defScope s_L_kinds) f cdv A outer s H E) (defBody s_L_kinds) (tEx (GG K cc) XR0 (fun c d _ H => E c d H) [] g_L_kinds) := by
  have B : Bx (GG K cc) (fun c d _ H => E c d H) 0 (cxOf (L2.CX P w) P w K mg base N_L_kinds "_law_kinds" (defScope s_L_kinds) f cdv A outer s H E) := Bx.of rfl sc_L_kinds.nd hr hg
  unfold g_L_kinds
  exact (es_cons (es_set (i := 1) B.nd rfl (lc_L_kinds_1 rfl) (ev_lst (ea_cons (ev_isV (cu := .ref cc.NoNumber) B.kk (fun k C ns b h1 h2 => xc_all ce k C ns (kl_NoNumber k b h1) h2) (gl_L_kinds_isinstance rfl) bn.b_isinstance (by decide +kernel) (ev_name (nv_L_kinds_0 rfl rfl)) (pe_glob (v := .ref cc.NoNumber) (gl_L_kinds_NoNumber rfl) ce.g_NoNumber rfl) (fun _ h => h) (ki_NoNumber ce)) (ea_cons (ev_isV (cu := .ref cc.NoPlace) B.kk (fun k C ns b h1 h2 => xc_all ce k C ns (kl_NoPlace k b h1) h2) (gl_L_kinds_isinstance rfl) bn.b_isinstance (by decide +kernel) (ev_name (nv_L_kinds_0 rfl rfl)) (pe_glob (v := .ref cc.NoPlace) (gl_L_kinds_NoPlace rfl) ce.g_NoPlace rfl) (fun _ h => h) (ki_NoPlace ce)) (ea_cons (ev_isV (cu := .ref cc.NoOrder) B.kk (fun k C ns b h1 h2 => xc_all ce k C ns (kl_NoOrder k b h1) h2) (gl_L_kinds_isinstance rfl) bn.b_isinstance (by decide +kernel) (ev_name (nv_L_kinds_0 rfl rfl)) (pe_glob (v := .ref cc.NoOrder) (gl_L_kinds_NoOrder rfl) ce.g_NoOrder rfl) (fun _ h => h) (ki_NoOrder ce)) (ea_cons (ev_isV (cu := .ref cc.NoPattern) B.kk (fun k C ns b h1 h2 => xc_all ce k C ns (kl_NoPattern k b h1) h2) (gl_L_kinds_isinstance rfl) bn.b_isinstance (by decide +kernel) (ev_name (nv_L_kinds_0 rfl rfl)) (pe_glob (v := .ref cc.NoPattern) (gl_L_kinds_NoPattern rfl) ce.g_NoPattern rfl) (fun _ h => h) (ki_NoPattern ce)) ea_nil)))))) (es_cons (es_set (i := 1) B.nd rfl (lc_L_kinds_1 rfl) (ev_op op_addAll o_add (ev_name (nv_L_kinds_1 rfl rfl)) (ev_lst (ea_cons (ev_isV (cu := .ref cc.NoLetter) B.kk (fun k C ns b h1 h2 => xc_all ce k C ns (kl_NoLetter k b h1) h2) (gl_L_kinds_isinstance rfl) bn.b_isinstance (by decide +kernel) (ev_name (nv_L_kinds_0 rfl rfl)) (pe_glob (v := .ref cc.NoLetter) (gl_L_kinds_NoLetter rfl) ce.g_NoLetter rfl) (fun _ h => h) (ki_NoLetter ce)) (ea_cons (ev_isV (cu := .ref cc.NoTicket) B.kk (fun k C ns b h1 h2 => xc_all ce k C ns (kl_NoTicket k b h1) h2) (gl_L_kinds_isinstance rfl) bn.b_isinstance (by decide +kernel) (ev_name (nv_L_kinds_0 rfl rfl)) (pe_glob (v := .ref cc.NoTicket) (gl_L_kinds_NoTicket rfl) ce.g_NoTicket rfl) (fun _ h => h) (ki_NoTicket ce)) (ea_cons (ev_isV (cu := .ref cc.NoSize) B.kk (fun k C ns b h1 h2 => xc_all ce k C ns (kl_NoSize k b h1) h2) (gl_L_kinds_isinstance rfl) bn.b_isinstance (by decide +kernel) (ev_name (nv_L_kinds_0 rfl rfl)) (pe_glob (v := .ref cc.NoSize) (gl_L_kinds_NoSize rfl) ce.g_NoSize rfl) (fun _ h => h) (ki_NoSize ce)) (ea_cons (ev_isV (cu := .ref cc.NoEnd) B.kk (fun k C ns b h1 h2 => xc_all ce k C ns (kl_NoEnd k b h1) h2) (gl_L_kinds_isinstance rfl) bn.b_isinstance (by decide +kernel) (ev_name (nv_L_kinds_0 rfl rfl)) (pe_glob (v := .ref cc.NoEnd) (gl_L_kinds_NoEnd rfl) ce.g_NoEnd rfl) (fun _ h => h) (ki_NoEnd ce)) ea_nil))))))) (es_cons (es_set (i := 1) B.nd rfl (lc_L_kinds_1 rfl) (ev_op op_addAll o_add (ev_name (nv_L_kinds_1 rfl rfl)) (ev_lst (ea_cons (ev_isV (cu := .ref cc.NoDeed) B.kk (fun k C ns b h1 h2 => xc_all ce k C ns (kl_NoDeed k b h1) h2) (gl_L_kinds_isinstance rfl) bn.b_isinstance (by decide +kernel) (ev_name (nv_L_kinds_0 rfl rfl)) (pe_glob (v := .ref cc.NoDeed) (gl_L_kinds_NoDeed rfl) ce.g_NoDeed rfl) (fun _ h => h) (ki_NoDeed ce)) (ea_cons (ev_isV (cu := .ref cc.NoText) B.kk (fun k C ns b h1 h2 => xc_all ce k C ns (kl_NoText k b h1) h2) (gl_L_kinds_isinstance rfl) bn.b_isinstance (by decide +kernel) (ev_name (nv_L_kinds_0 rfl rfl)) (pe_glob (v := .ref cc.NoText) (gl_L_kinds_NoText rfl) ce.g_NoText rfl) (fun _ h => h) (ki_NoText ce)) (ea_cons (ev_isV (cu := .ref cc.NoRow) B.kk (fun k C ns b h1 h2 => xc_all ce k C ns (kl_NoRow k b h1) h2) (gl_L_kinds_isinstance rfl) bn.b_isinstance (by decide +kernel) (ev_name (nv_L_kinds_0 rfl rfl)) (pe_glob (v := .ref cc.NoRow) (gl_L_kinds_NoRow rfl) ce.g_NoRow rfl) (fun _ h => h) (ki_NoRow ce)) (ea_cons (ev_isV (cu := .ref cc.NoForm) B.kk (fun k C ns b h1 h2 => xc_all ce k C ns (kl_NoForm k b h1) h2) (gl_L_kinds_isinstance rfl) bn.b_isinstance (by decide +kernel) (ev_name (nv_L_kinds_0 rfl rfl)) (pe_glob (v := .ref cc.NoForm) (gl_L_kinds_NoForm rfl) ce.g_NoForm rfl) (fun _ h => h) (ki_NoForm ce)) ea_nil))))))) (es_cons (es_set (i := 1) B.nd rfl (lc_L_kinds_1 rfl) (ev_op op_addAll o_add (ev_name (nv_L_kinds_1 rfl rfl)) (ev_lst (ea_cons (ev_isV (cu := .ref cc.Halted) B.kk (fun k C ns b h1 h2 => xc_all ce k C ns (kl_Halted k b h1) h2) (gl_L_kinds_isinstance rfl) bn.b_isinstance (by decide +kernel) (ev_name (nv_L_kinds_0 rfl rfl)) (pe_glob (v := .ref cc.Halted) (gl_L_kinds_Halted rfl) ce.g_Halted rfl) (fun _ h => h) (ki_Halted ce)) (ea_cons (ev_isV (cu := .ref cc.NoBack) B.kk (fun k C ns b h1 h2 => xc_all ce k C ns (kl_NoBack k b h1) h2) (gl_L_kinds_isinstance rfl) bn.b_isinstance (by decide +kernel) (ev_name (nv_L_kinds_0 rfl rfl)) (pe_glob (v := .ref cc.NoBack) (gl_L_kinds_NoBack rfl) ce.g_NoBack rfl) (fun _ h => h) (ki_NoBack ce)) (ea_cons (ev_isV (cu := .ref cc.NoSuch) B.kk (fun k C ns b h1 h2 => xc_all ce k C ns (kl_NoSuch k b h1) h2) (gl_L_kinds_isinstance rfl) bn.b_isinstance (by decide +kernel) (ev_name (nv_L_kinds_0 rfl rfl)) (pe_glob (v := .ref cc.NoSuch) (gl_L_kinds_NoSuch rfl) ce.g_NoSuch rfl) (fun _ h => h) (ki_NoSuch ce)) (ea_cons (ev_isV (cu := .ref cc.NoStream) B.kk (fun k C ns b h1 h2 => xc_all ce k C ns (kl_NoStream k b h1) h2) (gl_L_kinds_isinstance rfl) bn.b_isinstance (by decide +kernel) (ev_name (nv_L_kinds_0 rfl rfl)) (pe_glob (v := .ref cc.NoStream) (gl_L_kinds_NoStream rfl) ce.g_NoStream rfl) (fun _ h => h) (ki_NoStream ce)) ea_nil))))))) (es_cons (es_set (i := 1) B.nd rfl (lc_L_kinds_1 rfl) (ev_op op_addAll o_add (ev_name (nv_L_kinds_1 rfl rfl)) (ev_lst (ea_cons (ev_isV (cu := .ref cc.Busy) B.kk (fun k C ns b h1 h2 => xc_all ce k C ns (kl_Busy k b h1) h2) (gl_L_kinds_isinstance rfl) bn.b_isinstance (by decide +kernel) (ev_name (nv_L_kinds_0 rfl rfl)) (pe_glob (v := .ref cc.Busy) (gl_L_kinds_Busy rfl) ce.g_Busy rfl) (fun _ h => h) (ki_Busy ce)) (ea_cons (ev_isV (cu := .ref cc.Taken) B.kk (fun k C ns b h1 h2 => xc_all ce k C ns (kl_Taken k b h1) h2) (gl_L_kinds_isinstance rfl) bn.b_isinstance (by decide +kernel) (ev_name (nv_L_kinds_0 rfl rfl)) (pe_glob (v := .ref cc.Taken) (gl_L_kinds_Taken rfl) ce.g_Taken rfl) (fun _ h => h) (ki_Taken ce)) (ea_cons (ev_isV (cu := .ref cc.Same) B.kk (fun k C ns b h1 h2 => xc_all ce k C ns (kl_Same k b h1) h2) (gl_L_kinds_isinstance rfl) bn.b_isinstance (by decide +kernel) (ev_name (nv_L_kinds_0 rfl rfl)) (pe_glob (v := .ref cc.Same) (gl_L_kinds_Same rfl) ce.g_Same rfl) (fun _ h => h) (ki_Same ce)) (ea_cons (ev_isV (cu := .ref cc.Spent) B.kk (fun k C ns b h1 h2 => xc_all ce k C ns (kl_Spent k b h1) h2) (gl_L_kinds_isinstance rfl) bn.b_isinstance (by decide +kernel) (ev_name (nv_L_kinds_0 rfl rfl)) (pe_glob (v := .ref cc.Spent) (gl_L_kinds_Spent rfl) ce.g_Spent rfl) (fun _ h => h) (ki_Spent ce)) ea_nil))))))) (es_one (es_ret (ev_op op_addAll o_add (ev_name (nv_L_kinds_1 rfl rfl)) (ev_lst (ea_cons (ev_isV (cu := .ref cc.Twice) B.kk (fun k C ns b h1 h2 => xc_all ce k C ns (kl_Twice k b h1) h2) (gl_L_kinds_isinstance rfl) bn.b_isinstance (by decide +kernel) (ev_name (nv_L_kinds_0 rfl rfl)) (pe_glob (v := .ref cc.Twice) (gl_L_kinds_Twice rfl) ce.g_Twice rfl) (fun _ h => h) (ki_Twice ce)) (ea_cons (ev_isV (cu := .ref cc.TooMany) B.kk (fun k C ns b h1 h2 => xc_all ce k C ns (kl_TooMany k b h1) h2) (gl_L_kinds_isinstance rfl) bn.b_isinstance (by decide +kernel) (ev_name (nv_L_kinds_0 rfl rfl)) (pe_glob (v := .ref cc.TooMany) (gl_L_kinds_TooMany rfl) ce.g_TooMany rfl) (fun _ h => h) (ki_TooMany ce)) ea_nil)))))))))))
abbrev s_L_bases : Stmt := topS 30
abbrev N_L_bases : List Str := ["_law_e", "_law_own"]
theorem sc_L_bases : FnScope N_L_bases ["_law_e"] (defScope s_L_bases) := ⟨rfl, rfl, rfl, by decide +kernel, rfl, by decide +kernel, by decide +kernel⟩
theorem kl_L_bases_0 {X : Cx} (h : X.env.scope = defScope s_L_bases) : X.env.scope.names.lookup ("_law_e" : Str) = some .local := by rw [h]; decide +kernel
theorem nv_L_bases_0 {X : Cx} {pos : Pos} (hN : X.N = N_L_bases) (h : X.env.scope = defScope s_L_bases) : PE X (.Name "_law_e" pos) (tVar 0) := pe_var (by rw [hN]; rfl) (.inl (kl_L_bases_0 h))
theorem kl_L_bases_1 {X : Cx} (h : X.env.scope = defScope s_L_bases) : X.env.scope.names.lookup ("_law_own" : Str) = some .local := by rw [h]; decide +kernel
theorem lc_L_bases_1 {X : Cx} (h : X.env.scope = defScope s_L_bases) : Loc X.env.scope "_law_own" := .inl (kl_L_bases_1 h)
theorem nv_L_bases_1 {X : Cx} {pos : Pos} (hN : X.N = N_L_bases) (h : X.env.scope = defScope s_L_bases) : PE X (.Name "_law_own" pos) (tVar 1) := pe_var (by rw [hN]; rfl) (.inl (kl_L_bases_1 h))
theorem gl_L_bases_Absent {X : Cx} (h : X.env.scope = defScope s_L_bases) : Gl X "Absent" := by unfold Gl PySem.Env.kindOf; rw [h]; decide +kernel
theorem gl_L_bases_ArithmeticError {X : Cx} (h : X.env.scope = defScope s_L_bases) : Gl X "ArithmeticError" := by unfold Gl PySem.Env.kindOf; rw [h]; decide +kernel
theorem gl_L_bases_Barred {X : Cx} (h : X.env.scope = defScope s_L_bases) : Gl X "Barred" := by unfold Gl PySem.Env.kindOf; rw [h]; decide +kernel
theorem gl_L_bases_LookupError {X : Cx} (h : X.env.scope = defScope s_L_bases) : Gl X "LookupError" := by unfold Gl PySem.Env.kindOf; rw [h]; decide +kernel
theorem gl_L_bases_RowsError {X : Cx} (h : X.env.scope = defScope s_L_bases) : Gl X "RowsError" := by unfold Gl PySem.Env.kindOf; rw [h]; decide +kernel
theorem gl_L_bases_RuntimeError {X : Cx} (h : X.env.scope = defScope s_L_bases) : Gl X "RuntimeError" := by unfold Gl PySem.Env.kindOf; rw [h]; decide +kernel
theorem gl_L_bases_ValueError {X : Cx} (h : X.env.scope = defScope s_L_bases) : Gl X "ValueError" := by unfold Gl PySem.Env.kindOf; rw [h]; decide +kernel
theorem gl_L_bases_isinstance {X : Cx} (h : X.env.scope = defScope s_L_bases) : Gl X "isinstance" := by unfold Gl PySem.Env.kindOf; rw [h]; decide +kernel
theorem der_L_bases {P : Program} {w : World} {K : PySem.W.Frag} {mg : Str → Option Value} {base : Heap} {cc : Cl} (bn : Bn mg) (cn : Cn mg) (ce : Ce K mg cc)  {f : Addr} (cdv : Value) (A : Around) (outer : List PySem.Env) (s : Shared) (H : Hp) (E : XK) (hr : Room 0 (A.deeper (envOfC "_law_bases" (defScope s_L_bases) s.heap.objs.size f cdv))) (hg : A.guards = some []) :
    PSs (cxOf (L2.CX P w) P w K mg base N_L_bases "_law_bases" (defScope s_L_bases) f cdv A outer s H E) (defBody s_L_bases) (tEx (GG K cc) XR0 (fun c d _ H => E c d H) [] g_L_bases) := by
  have B : Bx (GG K cc) (fun c d _ H => E c d H) 0 (cxOf (L2.CX P w) P w K mg base N_L_bases "_law_bases" (defScope s_L_bases) f cdv A outer s H E) := Bx.of rfl sc_L_bases.nd hr hg
  unfold g_L_bases
  exact (es_cons (es_set (i := 1) B.nd rfl (lc_L_bases_1 rfl) (ev_lst (ea_cons (ev_isV (cu := .ref cc.RowsError) B.kk (fun k C ns b h1 h2 => xc_all ce k C ns (kl_RowsError k b h1) h2) (gl_L_bases_isinstance rfl) bn.b_isinstance (by decide +kernel) (ev_name (nv_L_bases_0 rfl rfl)) (pe_glob (v := .ref cc.RowsError) (gl_L_bases_RowsError rfl) ce.g_RowsError rfl) (fun _ h => h) (ki_RowsError ce)) (ea_cons (ev_isV (cu := .ref cc.Absent) B.kk (fun k C ns b h1 h2 => xc_all ce k C ns (kl_Absent k b h1) h2) (gl_L_bases_isinstance rfl) bn.b_isinstance (by decide +kernel) (ev_name (nv_L_bases_0 rfl rfl)) (pe_glob (v := .ref cc.Absent) (gl_L_bases_Absent rfl) ce.g_Absent rfl) (fun _ h => h) (ki_Absent ce)) (ea_cons (ev_isV (cu := .ref cc.Barred) B.kk (fun k C ns b h1 h2 => xc_all ce k C ns (kl_Barred k b h1) h2) (gl_L_bases_isinstance rfl) bn.b_isinstance (by decide +kernel) (ev_name (nv_L_bases_0 rfl rfl)) (pe_glob (v := .ref cc.Barred) (gl_L_bases_Barred rfl) ce.g_Barred rfl) (fun _ h => h) (ki_Barred ce)) ea_nil))))) (es_cons (es_set (i := 1) B.nd rfl (lc_L_bases_1 rfl) (ev_op op_addAll o_add (ev_name (nv_L_bases_1 rfl rfl)) (ev_lst (ea_cons (ev_isV (cu := .type "ValueError") B.kk (fun k C ns b h1 h2 => xc_all ce k C ns (kl_ValueError k b h1) h2) (gl_L_bases_isinstance rfl) bn.b_isinstance (by decide +kernel) (ev_name (nv_L_bases_0 rfl rfl)) (pe_bltn (v := .ty "ValueError") (gl_L_bases_ValueError rfl) bn.b_ValueError (by decide +kernel) rfl) (fun _ h => h) (ki_ValueError ce)) (ea_cons (ev_isV (cu := .type "LookupError") B.kk (fun k C ns b h1 h2 => xc_all ce k C ns (kl_LookupError k b h1) h2) (gl_L_bases_isinstance rfl) bn.b_isinstance (by decide +kernel) (ev_name (nv_L_bases_0 rfl rfl)) (pe_bltn (v := .ty "LookupError") (gl_L_bases_LookupError rfl) bn.b_LookupError (by decide +kernel) rfl) (fun _ h => h) (ki_LookupError ce)) ea_nil))))) (es_one (es_ret (ev_op op_addAll o_add (ev_name (nv_L_bases_1 rfl rfl)) (ev_lst (ea_cons (ev_isV (cu := .type "RuntimeError") B.kk (fun k C ns b h1 h2 => xc_all ce k C ns (kl_RuntimeError k b h1) h2) (gl_L_bases_isinstance rfl) bn.b_isinstance (by decide +kernel) (ev_name (nv_L_bases_0 rfl rfl)) (pe_bltn (v := .ty "RuntimeError") (gl_L_bases_RuntimeError rfl) bn.b_RuntimeError (by decide +kernel) rfl) (fun _ h => h) (ki_RuntimeError ce)) (ea_cons (ev_isV (cu := .type "ArithmeticError") B.kk (fun k C ns b h1 h2 => xc_all ce k C ns (kl_ArithmeticError k b h1) h2) (gl_L_bases_isinstance rfl) bn.b_isinstance (by decide +kernel) (ev_name (nv_L_bases_0 rfl rfl)) (pe_bltn (v := .ty "ArithmeticError") (gl_L_bases_ArithmeticError rfl) bn.b_ArithmeticError (by decide +kernel) rfl) (fun _ h => h) (ki_ArithmeticError ce)) ea_nil))))))))
abbrev s_L_are_right : Stmt := topS 31
abbrev N_L_are_right : List Str := ["_law_made", "_law_k", "_law_e", "_law_which", "_law_due", "_law_j"]
theorem sc_L_are_right : FnScope N_L_are_right ["_law_made"] (defScope s_L_are_right) := ⟨rfl, rfl, rfl, by decide +kernel, rfl, by decide +kernel, by decide +kernel⟩
theorem kl_L_are_right_0 {X : Cx} (h : X.env.scope = defScope s_L_are_right) : X.env.scope.names.lookup ("_law_made" : Str) = some .local := by rw [h]; decide +kernel
theorem nv_L_are_right_0 {X : Cx} {pos : Pos} (hN : X.N = N_L_are_right) (h : X.env.scope = defScope s_L_are_right) : PE X (.Name "_law_made" pos) (tVar 0) := pe_var (by rw [hN]; rfl) (.inl (kl_L_are_right_0 h))
theorem kl_L_are_right_1 {X : Cx} (h : X.env.scope = defScope s_L_are_right) : X.env.scope.names.lookup ("_law_k" : Str) = some .cell := by rw [h]; decide +kernel
theorem lc_L_are_right_1 {X : Cx} (h : X.env.scope = defScope s_L_are_right) : Loc X.env.scope "_law_k" := .inr (kl_L_are_right_1 h)
theorem nv_L_are_right_1 {X : Cx} {pos : Pos} (hN : X.N = N_L_are_right) (h : X.env.scope = defScope s_L_are_right) : PE X (.Name "_law_k" pos) (tVar 1) := pe_var (by rw [hN]; rfl) (.inr (.inl (kl_L_are_right_1 h)))
theorem kl_L_are_right_2 {X : Cx} (h : X.env.scope = defScope s_L_are_right) : X.env.scope.names.lookup ("_law_e" : Str) = some .local := by rw [h]; decide +kernel
theorem lc_L_are_right_2 {X : Cx} (h : X.env.scope = defScope s_L_are_right) : Loc X.env.scope "_law_e" := .inl (kl_L_are_right_2 h)
theorem nv_L_are_right_2 {X : Cx} {pos : Pos} (hN : X.N = N_L_are_right) (h : X.env.scope = defScope s_L_are_right) : PE X (.Name "_law_e" pos) (tVar 2) := pe_var (by rw [hN]; rfl) (.inl (kl_L_are_right_2 h))
theorem kl_L_are_right_3 {X : Cx} (h : X.env.scope = defScope s_L_are_right) : X.env.scope.names.lookup ("_law_which" : Str) = some .local := by rw [h]; decide +kernel
theorem lc_L_are_right_3 {X : Cx} (h : X.env.scope = defScope s_L_are_right) : Loc X.env.scope "_law_which" := .inl (kl_L_are_right_3 h)
theorem nv_L_are_right_3 {X : Cx} {pos : Pos} (hN : X.N = N_L_are_right) (h : X.env.scope = defScope s_L_are_right) : PE X (.Name "_law_which" pos) (tVar 3) := pe_var (by rw [hN]; rfl) (.inl (kl_L_are_right_3 h))
theorem kl_L_are_right_4 {X : Cx} (h : X.env.scope = defScope s_L_are_right) : X.env.scope.names.lookup ("_law_due" : Str) = some .local := by rw [h]; decide +kernel
theorem lc_L_are_right_4 {X : Cx} (h : X.env.scope = defScope s_L_are_right) : Loc X.env.scope "_law_due" := .inl (kl_L_are_right_4 h)
theorem nv_L_are_right_4 {X : Cx} {pos : Pos} (hN : X.N = N_L_are_right) (h : X.env.scope = defScope s_L_are_right) : PE X (.Name "_law_due" pos) (tVar 4) := pe_var (by rw [hN]; rfl) (.inl (kl_L_are_right_4 h))
theorem gl_L_are_right_L_bases {X : Cx} (h : X.env.scope = defScope s_L_are_right) : Gl X "_law_bases" := by unfold Gl PySem.Env.kindOf; rw [h]; decide +kernel
theorem gl_L_are_right_L_kinds {X : Cx} (h : X.env.scope = defScope s_L_are_right) : Gl X "_law_kinds" := by unfold Gl PySem.Env.kindOf; rw [h]; decide +kernel
theorem gl_L_are_right_enumerate {X : Cx} (h : X.env.scope = defScope s_L_are_right) : Gl X "enumerate" := by unfold Gl PySem.Env.kindOf; rw [h]; decide +kernel
theorem gl_L_are_right_int {X : Cx} (h : X.env.scope = defScope s_L_are_right) : Gl X "int" := by unfold Gl PySem.Env.kindOf; rw [h]; decide +kernel
theorem gl_L_are_right_range {X : Cx} (h : X.env.scope = defScope s_L_are_right) : Gl X "range" := by unfold Gl PySem.Env.kindOf; rw [h]; decide +kernel
theorem der_L_are_right {P : Program} {w : World} {K : PySem.W.Frag} {mg : Str → Option Value} {base : Heap} {cc : Cl} (bn : Bn mg) (cn : Cn mg) (ce : Ce K mg cc) {fa_L_kinds : Addr} {fd_L_kinds : FuncData} (I_L_kinds : FnI P w K mg base "_law_kinds" 1 ["_law_e"] (spP (GG K cc) XR0 1 P_L_kinds) fa_L_kinds fd_L_kinds) {fa_L_bases : Addr} {fd_L_bases : FuncData} (I_L_bases : FnI P w K mg base "_law_bases" 1 ["_law_e"] (spP (GG K cc) XR0 1 P_L_bases) fa_L_bases fd_L_bases) {f : Addr} (cdv : Value) (A : Around) (outer : List PySem.Env) (s : Shared) (H : Hp) (E : XK) (hr : Room 1 (A.deeper (envOfC "_law_are_right" (defScope s_L_are_right) s.heap.objs.size f cdv))) (hg : A.guards = some []) :
    PSs (cxOf (L2.CX P w) P w K mg base N_L_are_right "_law_are_right" (defScope s_L_are_right) f cdv A outer s H E) (defBody s_L_are_right) (tEx (GG K cc) XR0 (fun c d _ H => E c d H) [] g_L_are_right) := by
  have B : Bx (GG K cc) (fun c d _ H => E c d H) 1 (cxOf (L2.CX P w) P w K mg base N_L_are_right "_law_are_right" (defScope s_L_are_right) f cdv A outer s H E) := Bx.of rfl sc_L_are_right.nd hr hg
  unfold g_L_are_right fb_L_are_right_1 ft_L_are_right_1 ce_L_are_right_1 cc_L_are_right_1 ct_L_are_right_1
  exact (es_cons (es_for B.po B.calm (ei_enum B.kk (gl_L_are_right_enumerate rfl) bn.b_enumerate (ea_cons (ev_name (nv_L_are_right_0 rfl rfl)) ea_nil)) (eg_tup B.calm B.kk (egs_cons (eg_name (pg_name (i := 1) B.nd rfl (lc_L_are_right_1 rfl))) (egs_cons (eg_name (pg_name (i := 2) B.nd rfl (lc_L_are_right_2 rfl))) egs_nil))) (es_cons (es_if (et_cmp (op_neT B.un64) o_ne (ev_call I_L_kinds.fn (B.room.mono (by decide)) B.gu B.tk (gl_L_are_right_L_kinds rfl) I_L_kinds.mg I_L_kinds.kp I_L_kinds.bd (ea_cons (ev_name (nv_L_are_right_2 rfl rfl)) ea_nil)) (ev_lc B.calm B.nd (ei_range1 (gl_L_are_right_range rfl) bn.b_range (ea_cons ev_int ea_nil)) (blkOk_by (N := N_L_are_right) (sc := defScope s_L_are_right) (own := [("_law_j", 5)]) (by decide +kernel)) (fun s1 H1 C1 cl1 fp1 => (eg_name (pg_name (i := 5) (B.blk s1 H1 _ _ fp1).nd rfl (.inl (by kernel_rfl))))) (fun s1 H1 C1 cl1 fp1 => ets_nil) (fun s1 H1 C1 cl1 fp1 => (ev_cmp (op_eqT (B.blk s1 H1 _ _ fp1).un64) o_eq (ev_name (pe_var (i := 5) rfl (.inl (by kernel_rfl)))) (ev_name (pe_var (i := 1) rfl (.inr (.inl (by kernel_rfl))))) (nomark _))) (show ∀ j, j < 6 → j ∉ [5] → j ∈ [0, 1, 2, 3, 4] by decide)) (nomark _)) (es_one (es_ret ev_bl)) es_nil) (es_cons (es_set (i := 3) B.nd rfl (lc_L_are_right_3 rfl) (ev_op op_addAll o_add (ev_op op_addAll o_add (ev_callT1 call_int1 o_int (gl_L_are_right_int rfl) bn.b_int (by decide +kernel) (ev_cmp op_gt o_gt (ev_name (nv_L_are_right_1 rfl rfl)) ev_int (nomark _))) (ev_callT1 call_int1 o_int (gl_L_are_right_int rfl) bn.b_int (by decide +kernel) (ev_cmp op_gt o_gt (ev_name (nv_L_are_right_1 rfl rfl)) ev_int (nomark _)))) (ev_callT1 call_int1 o_int (gl_L_are_right_int rfl) bn.b_int (by decide +kernel) (ev_cmp op_gt o_gt (ev_name (nv_L_are_right_1 rfl rfl)) ev_int (nomark _))))) (es_cons (es_set (i := 4) B.nd rfl (lc_L_are_right_4 rfl) (ev_lst (ea_cons (ev_cmp (op_eqT B.un64) o_eq (ev_name (nv_L_are_right_3 rfl rfl)) ev_int (nomark _)) (ea_cons (ev_cmp (op_eqT B.un64) o_eq (ev_name (nv_L_are_right_3 rfl rfl)) ev_int (nomark _)) (ea_cons (ev_cmp (op_eqT B.un64) o_eq (ev_name (nv_L_are_right_3 rfl rfl)) ev_int (nomark _)) ea_nil))))) (es_one (es_if (et_cmp (op_neT B.un64) o_ne (ev_call I_L_bases.fn (B.room.mono (by decide)) B.gu B.tk (gl_L_are_right_L_bases rfl) I_L_bases.mg I_L_bases.kp I_L_bases.bd (ea_cons (ev_name (nv_L_are_right_2 rfl rfl)) ea_nil)) (ev_op op_addAll o_add (ev_op op_addAll o_add (ev_name (nv_L_are_right_4 rfl rfl)) (ev_name (nv_L_are_right_4 rfl rfl))) (ev_lst (ea_cons (ev_cmp (op_eqT B.un64) o_eq (ev_name (nv_L_are_right_3 rfl rfl)) ev_int (nomark _)) ea_nil))) (nomark _)) (es_one (es_ret ev_bl)) es_nil)))))) (es_one (es_ret ev_bl)))
abbrev s_law : Stmt := topS 32
abbrev N_law : List Str := ["_law_script", "_law_pot_here", "_law_words", "_law_number", "_law_ticket", "_law_some", "_law_made", "_law_form", "_law_halted", "_law_such", "_law_stream", "_law_taken", "_law_same", "_law_spent", "_law_twice", "_law_many", "_law_k"]
theorem sc_law : FnScope N_law ["_law_script"] (defScope s_law) := ⟨rfl, rfl, rfl, by decide +kernel, rfl, by decide +kernel, by decide +kernel⟩
theorem kl_law_0 {X : Cx} (h : X.env.scope = defScope s_law) : X.env.scope.names.lookup ("_law_script" : Str) = some .local := by rw [h]; decide +kernel
theorem nv_law_0 {X : Cx} {pos : Pos} (hN : X.N = N_law) (h : X.env.scope = defScope s_law) : PE X (.Name "_law_script" pos) (tVar 0) := pe_var (by rw [hN]; rfl) (.inl (kl_law_0 h))
theorem kl_law_1 {X : Cx} (h : X.env.scope = defScope s_law) : X.env.scope.names.lookup ("_law_pot_here" : Str) = some .cell := by rw [h]; decide +kernel
theorem lc_law_1 {X : Cx} (h : X.env.scope = defScope s_law) : Loc X.env.scope "_law_pot_here" := .inr (kl_law_1 h)
theorem nv_law_1 {X : Cx} {pos : Pos} (hN : X.N = N_law) (h : X.env.scope = defScope s_law) : PE X (.Name "_law_pot_here" pos) (tVar 1) := pe_var (by rw [hN]; rfl) (.inr (.inl (kl_law_1 h)))
theorem kl_law_2 {X : Cx} (h : X.env.scope = defScope s_law) : X.env.scope.names.lookup ("_law_words" : Str) = some .local := by rw [h]; decide +kernel
theorem lc_law_2 {X : Cx} (h : X.env.scope = defScope s_law) : Loc X.env.scope "_law_words" := .inl (kl_law_2 h)
theorem nv_law_2 {X : Cx} {pos : Pos} (hN : X.N = N_law) (h : X.env.scope = defScope s_law) : PE X (.Name "_law_words" pos) (tVar 2) := pe_var (by rw [hN]; rfl) (.inl (kl_law_2 h))
theorem kl_law_3 {X : Cx} (h : X.env.scope = defScope s_law) : X.env.scope.names.lookup ("_law_number" : Str) = some .local := by rw [h]; decide +kernel
theorem nv_law_3 {X : Cx} {pos : Pos} (hN : X.N = N_law) (h : X.env.scope = defScope s_law) : PE X (.Name "_law_number" pos) (tVar 3) := pe_var (by rw [hN]; rfl) (.inl (kl_law_3 h))
theorem kl_law_4 {X : Cx} (h : X.env.scope = defScope s_law) : X.env.scope.names.lookup ("_law_ticket" : Str) = some .local := by rw [h]; decide +kernel
theorem nv_law_4 {X : Cx} {pos : Pos} (hN : X.N = N_law) (h : X.env.scope = defScope s_law) : PE X (.Name "_law_ticket" pos) (tVar 4) := pe_var (by rw [hN]; rfl) (.inl (kl_law_4 h))
theorem kl_law_5 {X : Cx} (h : X.env.scope = defScope s_law) : X.env.scope.names.lookup ("_law_some" : Str) = some .local := by rw [h]; decide +kernel
theorem lc_law_5 {X : Cx} (h : X.env.scope = defScope s_law) : Loc X.env.scope "_law_some" := .inl (kl_law_5 h)
theorem nv_law_5 {X : Cx} {pos : Pos} (hN : X.N = N_law) (h : X.env.scope = defScope s_law) : PE X (.Name "_law_some" pos) (tVar 5) := pe_var (by rw [hN]; rfl) (.inl (kl_law_5 h))
theorem kl_law_6 {X : Cx} (h : X.env.scope = defScope s_law) : X.env.scope.names.lookup ("_law_made" : Str) = some .local := by rw [h]; decide +kernel
theorem lc_law_6 {X : Cx} (h : X.env.scope = defScope s_law) : Loc X.env.scope "_law_made" := .inl (kl_law_6 h)
theorem nv_law_6 {X : Cx} {pos : Pos} (hN : X.N = N_law) (h : X.env.scope = defScope s_law) : PE X (.Name "_law_made" pos) (tVar 6) := pe_var (by rw [hN]; rfl) (.inl (kl_law_6 h))
theorem kl_law_7 {X : Cx} (h : X.env.scope = defScope s_law) : X.env.scope.names.lookup ("_law_form" : Str) = some .local := by rw [h]; decide +kernel
theorem lc_law_7 {X : Cx} (h : X.env.scope = defScope s_law) : Loc X.env.scope "_law_form" := .inl (kl_law_7 h)
theorem nv_law_7 {X : Cx} {pos : Pos} (hN : X.N = N_law) (h : X.env.scope = defScope s_law) : PE X (.Name "_law_form" pos) (tVar 7) := pe_var (by rw [hN]; rfl) (.inl (kl_law_7 h))
theorem kl_law_8 {X : Cx} (h : X.env.scope = defScope s_law) : X.env.scope.names.lookup ("_law_halted" : Str) = some .local := by rw [h]; decide +kernel
theorem lc_law_8 {X : Cx} (h : X.env.scope = defScope s_law) : Loc X.env.scope "_law_halted" := .inl (kl_law_8 h)
theorem nv_law_8 {X : Cx} {pos : Pos} (hN : X.N = N_law) (h : X.env.scope = defScope s_law) : PE X (.Name "_law_halted" pos) (tVar 8) := pe_var (by rw [hN]; rfl) (.inl (kl_law_8 h))
theorem kl_law_9 {X : Cx} (h : X.env.scope = defScope s_law) : X.env.scope.names.lookup ("_law_such" : Str) = some .local := by rw [h]; decide +kernel
theorem lc_law_9 {X : Cx} (h : X.env.scope = defScope s_law) : Loc X.env.scope "_law_such" := .inl (kl_law_9 h)
theorem nv_law_9 {X : Cx} {pos : Pos} (hN : X.N = N_law) (h : X.env.scope = defScope s_law) : PE X (.Name "_law_such" pos) (tVar 9) := pe_var (by rw [hN]; rfl) (.inl (kl_law_9 h))
theorem kl_law_10 {X : Cx} (h : X.env.scope = defScope s_law) : X.env.scope.names.lookup ("_law_stream" : Str) = some .local := by rw [h]; decide +kernel
theorem lc_law_10 {X : Cx} (h : X.env.scope = defScope s_law) : Loc X.env.scope "_law_stream" := .inl (kl_law_10 h)
theorem nv_law_10 {X : Cx} {pos : Pos} (hN : X.N = N_law) (h : X.env.scope = defScope s_law) : PE X (.Name "_law_stream" pos) (tVar 10) := pe_var (by rw [hN]; rfl) (.inl (kl_law_10 h))
theorem kl_law_11 {X : Cx} (h : X.env.scope = defScope s_law) : X.env.scope.names.lookup ("_law_taken" : Str) = some .local := by rw [h]; decide +kernel
theorem nv_law_11 {X : Cx} {pos : Pos} (hN : X.N = N_law) (h : X.env.scope = defScope s_law) : PE X (.Name "_law_taken" pos) (tVar 11) := pe_var (by rw [hN]; rfl) (.inl (kl_law_11 h))
theorem kl_law_12 {X : Cx} (h : X.env.scope = defScope s_law) : X.env.scope.names.lookup ("_law_same" : Str) = some .local := by rw [h]; decide +kernel
theorem nv_law_12 {X : Cx} {pos : Pos} (hN : X.N = N_law) (h : X.env.scope = defScope s_law) : PE X (.Name "_law_same" pos) (tVar 12) := pe_var (by rw [hN]; rfl) (.inl (kl_law_12 h))
theorem kl_law_13 {X : Cx} (h : X.env.scope = defScope s_law) : X.env.scope.names.lookup ("_law_spent" : Str) = some .local := by rw [h]; decide +kernel
theorem nv_law_13 {X : Cx} {pos : Pos} (hN : X.N = N_law) (h : X.env.scope = defScope s_law) : PE X (.Name "_law_spent" pos) (tVar 13) := pe_var (by rw [hN]; rfl) (.inl (kl_law_13 h))
theorem kl_law_14 {X : Cx} (h : X.env.scope = defScope s_law) : X.env.scope.names.lookup ("_law_twice" : Str) = some .local := by rw [h]; decide +kernel
theorem nv_law_14 {X : Cx} {pos : Pos} (hN : X.N = N_law) (h : X.env.scope = defScope s_law) : PE X (.Name "_law_twice" pos) (tVar 14) := pe_var (by rw [hN]; rfl) (.inl (kl_law_14 h))
theorem kl_law_15 {X : Cx} (h : X.env.scope = defScope s_law) : X.env.scope.names.lookup ("_law_many" : Str) = some .local := by rw [h]; decide +kernel
theorem nv_law_15 {X : Cx} {pos : Pos} (hN : X.N = N_law) (h : X.env.scope = defScope s_law) : PE X (.Name "_law_many" pos) (tVar 15) := pe_var (by rw [hN]; rfl) (.inl (kl_law_15 h))
theorem gl_law_Busy {X : Cx} (h : X.env.scope = defScope s_law) : Gl X "Busy" := by unfold Gl PySem.Env.kindOf; rw [h]; decide +kernel
theorem gl_law_Halted {X : Cx} (h : X.env.scope = defScope s_law) : Gl X "Halted" := by unfold Gl PySem.Env.kindOf; rw [h]; decide +kernel
theorem gl_law_NoBack {X : Cx} (h : X.env.scope = defScope s_law) : Gl X "NoBack" := by unfold Gl PySem.Env.kindOf; rw [h]; decide +kernel
theorem gl_law_NoDeed {X : Cx} (h : X.env.scope = defScope s_law) : Gl X "NoDeed" := by unfold Gl PySem.Env.kindOf; rw [h]; decide +kernel
theorem gl_law_NoEnd {X : Cx} (h : X.env.scope = defScope s_law) : Gl X "NoEnd" := by unfold Gl PySem.Env.kindOf; rw [h]; decide +kernel
theorem gl_law_NoForm {X : Cx} (h : X.env.scope = defScope s_law) : Gl X "NoForm" := by unfold Gl PySem.Env.kindOf; rw [h]; decide +kernel
theorem gl_law_NoLetter {X : Cx} (h : X.env.scope = defScope s_law) : Gl X "NoLetter" := by unfold Gl PySem.Env.kindOf; rw [h]; decide +kernel
theorem gl_law_NoNumber {X : Cx} (h : X.env.scope = defScope s_law) : Gl X "NoNumber" := by unfold Gl PySem.Env.kindOf; rw [h]; decide +kernel
theorem gl_law_NoOrder {X : Cx} (h : X.env.scope = defScope s_law) : Gl X "NoOrder" := by unfold Gl PySem.Env.kindOf; rw [h]; decide +kernel
theorem gl_law_NoPattern {X : Cx} (h : X.env.scope = defScope s_law) : Gl X "NoPattern" := by unfold Gl PySem.Env.kindOf; rw [h]; decide +kernel
theorem gl_law_NoPlace {X : Cx} (h : X.env.scope = defScope s_law) : Gl X "NoPlace" := by unfold Gl PySem.Env.kindOf; rw [h]; decide +kernel
theorem gl_law_NoRow {X : Cx} (h : X.env.scope = defScope s_law) : Gl X "NoRow" := by unfold Gl PySem.Env.kindOf; rw [h]; decide +kernel
theorem gl_law_NoSize {X : Cx} (h : X.env.scope = defScope s_law) : Gl X "NoSize" := by unfold Gl PySem.Env.kindOf; rw [h]; decide +kernel
theorem gl_law_NoStream {X : Cx} (h : X.env.scope = defScope s_law) : Gl X "NoStream" := by unfold Gl PySem.Env.kindOf; rw [h]; decide +kernel
theorem gl_law_NoSuch {X : Cx} (h : X.env.scope = defScope s_law) : Gl X "NoSuch" := by unfold Gl PySem.Env.kindOf; rw [h]; decide +kernel
theorem gl_law_NoText {X : Cx} (h : X.env.scope = defScope s_law) : Gl X "NoText" := by unfold Gl PySem.Env.kindOf; rw [h]; decide +kernel
theorem gl_law_NoTicket {X : Cx} (h : X.env.scope = defScope s_law) : Gl X "NoTicket" := by unfold Gl PySem.Env.kindOf; rw [h]; decide +kernel
theorem gl_law_Same {X : Cx} (h : X.env.scope = defScope s_law) : Gl X "Same" := by unfold Gl PySem.Env.kindOf; rw [h]; decide +kernel
theorem gl_law_Spent {X : Cx} (h : X.env.scope = defScope s_law) : Gl X "Spent" := by unfold Gl PySem.Env.kindOf; rw [h]; decide +kernel
theorem gl_law_Taken {X : Cx} (h : X.env.scope = defScope s_law) : Gl X "Taken" := by unfold Gl PySem.Env.kindOf; rw [h]; decide +kernel
theorem gl_law_TooMany {X : Cx} (h : X.env.scope = defScope s_law) : Gl X "TooMany" := by unfold Gl PySem.Env.kindOf; rw [h]; decide +kernel
theorem gl_law_Twice {X : Cx} (h : X.env.scope = defScope s_law) : Gl X "Twice" := by unfold Gl PySem.Env.kindOf; rw [h]; decide +kernel
theorem gl_law_L_are_right {X : Cx} (h : X.env.scope = defScope s_law) : Gl X "_law_are_right" := by unfold Gl PySem.Env.kindOf; rw [h]; decide +kernel
theorem gl_law_L_digit {X : Cx} (h : X.env.scope = defScope s_law) : Gl X "_law_digit" := by unfold Gl PySem.Env.kindOf; rw [h]; decide +kernel
theorem gl_law_L_pot {X : Cx} (h : X.env.scope = defScope s_law) : Gl X "_law_pot" := by unfold Gl PySem.Env.kindOf; rw [h]; decide +kernel
theorem gl_law_range {X : Cx} (h : X.env.scope = defScope s_law) : Gl X "range" := by unfold Gl PySem.Env.kindOf; rw [h]; decide +kernel
theorem der_law {P : Program} {w : World} {K : PySem.W.Frag} {mg : Str → Option Value} {base : Heap} {cc : Cl} (bn : Bn mg) (cn : Cn mg) (ce : Ce K mg cc) {fa_L_pot : Addr} {fd_L_pot : FuncData} (I_L_pot : FnI P w K mg base "_law_pot" 1 ["_law_script", "_law_k"] (spP (GG K cc) XR0 2 P_L_pot) fa_L_pot fd_L_pot) {fa_L_digit : Addr} {fd_L_digit : FuncData} (I_L_digit : FnI P w K mg base "_law_digit" 1 ["_law_pot_here", "_law_many"] (spM (GG K cc) XR0 2 P_L_digit) fa_L_digit fd_L_digit) {fa_L_are_right : Addr} {fd_L_are_right : FuncData} (I_L_are_right : FnI P w K mg base "_law_are_right" 2 ["_law_made"] (spP (GG K cc) XR0 1 P_L_are_right) fa_L_are_right fd_L_are_right) {fi_NoForm : Addr} {fdx_NoForm : FuncData} (Q_NoForm : XaI P w K mg base "ValueError.__new__" [.type "ValueError", .type "Exception", .type "BaseException", .type "object"] cc.NoForm ["what"] ["self", "what"] fi_NoForm fdx_NoForm) {fi_Halted : Addr} {fdx_Halted : FuncData} (Q_Halted : XaI P w K mg base "ValueError.__new__" [.type "ValueError", .type "Exception", .type "BaseException", .type "object"] cc.Halted ["number", "answers"] ["self", "number", "answers"] fi_Halted fdx_Halted) {fi_NoSuch : Addr} {fdx_NoSuch : FuncData} (Q_NoSuch : XaI P w K mg base "LookupError.__new__" [.type "LookupError", .type "Exception", .type "BaseException", .type "object"] cc.NoSuch ["name"] ["self", "name"] fi_NoSuch fdx_NoSuch) {fi_NoStream : Addr} {fdx_NoStream : FuncData} (Q_NoStream : XaI P w K mg base "LookupError.__new__" [.type "LookupError", .type "Exception", .type "BaseException", .type "object"] cc.NoStream ["letter"] ["self", "letter"] fi_NoStream fdx_NoStream) {fi_Taken : Addr} {fdx_Taken : FuncData} (Q_Taken : XaI P w K mg base "RuntimeError.__new__" [.type "RuntimeError", .type "Exception", .type "BaseException", .type "object"] cc.Taken ["name"] ["self", "name"] fi_Taken fdx_Taken) {fi_Same : Addr} {fdx_Same : FuncData} (Q_Same : XaI P w K mg base "RuntimeError.__new__" [.type "RuntimeError", .type "Exception", .type "BaseException", .type "object"] cc.Same ["name"] ["self", "name"] fi_Same fdx_Same) {fi_Spent : Addr} {fdx_Spent : FuncData} (Q_Spent : XaI P w K mg base "RuntimeError.__new__" [.type "RuntimeError", .type "Exception", .type "BaseException", .type "object"] cc.Spent ["letter"] ["self", "letter"] fi_Spent fdx_Spent) {fi_Twice : Addr} {fdx_Twice : FuncData} (Q_Twice : XaI P w K mg base "RuntimeError.__new__" [.type "RuntimeError", .type "Exception", .type "BaseException", .type "object"] cc.Twice ["ticket"] ["self", "ticket"] fi_Twice fdx_Twice) {fi_TooMany : Addr} {fdx_TooMany : FuncData} (Q_TooMany : XaI P w K mg base "ArithmeticError.__new__" [.type "ArithmeticError", .type "Exception", .type "BaseException", .type "object"] cc.TooMany ["tickets", "lines"] ["self", "tickets", "lines"] fi_TooMany fdx_TooMany) {f : Addr} (cdv : Value) (A : Around) (outer : List PySem.Env) (s : Shared) (H : Hp) (E : XK) (hr : Room 2 (A.deeper (envOfC "law" (defScope s_law) s.heap.objs.size f cdv))) (hg : A.guards = some []) :
    PSs (cxOf (L2.CX P w) P w K mg base N_law "law" (defScope s_law) f cdv A outer s H E) (defBody s_law) (tEx (GG K cc) XR0 (fun c d _ H => E c d H) [] g_law) := by
  have B : Bx (GG K cc) (fun c d _ H => E c d H) 2 (cxOf (L2.CX P w) P w K mg base N_law "law" (defScope s_law) f cdv A outer s H E) := Bx.of rfl sc_law.nd hr hg
  unfold g_law ce_law_1 cc_law_1 ct_law_1
  exact (es_cons (es_set (i := 1) B.nd rfl (lc_law_1 rfl) (ev_call I_L_pot.fn (B.room.mono (by decide)) B.gu B.tk (gl_law_L_pot rfl) I_L_pot.mg I_L_pot.kp I_L_pot.bd (ea_cons (ev_name (nv_law_0 rfl rfl)) (ea_cons ev_int ea_nil)))) (es_cons (es_set (i := 2) B.nd rfl (lc_law_2 rfl) (ev_joinC B.kk (ev_lc B.calm B.nd (ei_range1 (gl_law_range rfl) bn.b_range (ea_cons (ev_callM I_L_digit.fn (B.room.mono (by decide)) B.gu B.tk (gl_law_L_digit rfl) I_L_digit.mg I_L_digit.kp I_L_digit.bd (nv_law_1 rfl rfl) (ea_cons ev_int ea_nil)) ea_nil)) (blkOk_by (N := N_law) (sc := defScope s_law) (own := [("_law_k", 16)]) (by decide +kernel)) (fun s1 H1 C1 cl1 fp1 => (eg_name (pg_name (i := 16) (B.blk s1 H1 _ _ fp1).nd rfl (.inl (by kernel_rfl))))) (fun s1 H1 C1 cl1 fp1 => ets_nil) (fun s1 H1 C1 cl1 fp1 => (ev_ix ix_seq o_ix ev_str (ev_callM I_L_digit.fn ((B.blk s1 H1 _ _ fp1).room.mono (by decide)) (B.blk s1 H1 _ _ fp1).gu (B.blk s1 H1 _ _ fp1).tk (by unfold Gl; kernel_rfl) I_L_digit.mg I_L_digit.kp I_L_digit.bd (pe_var (i := 1) rfl (.inr (.inl (by kernel_rfl)))) (ea_cons ev_int ea_nil)) (fun _ _ => rfl))) (show ∀ j, j < 17 → j ∉ [16] → j ∈ [0, 1, 2, 3, 4, 5, 6, 7, 8, 9, 10, 11, 12, 13, 14, 15] by decide)))) (es_cons (es_par (i := 3) (j := 4) B.calm B.nd rfl rfl (by decide) (kl_law_3 rfl) (kl_law_4 rfl) (ev_callM I_L_digit.fn (B.room.mono (by decide)) B.gu B.tk (gl_law_L_digit rfl) I_L_digit.mg I_L_digit.kp I_L_digit.bd (nv_law_1 rfl rfl) (ea_cons ev_int ea_nil)) (ev_tup (ea_cons ev_str (ea_cons (ev_callM I_L_digit.fn (B.room.mono (by decide)) B.gu B.tk (gl_law_L_digit rfl) I_L_digit.mg I_L_digit.kp I_L_digit.bd (nv_law_1 rfl rfl) (ea_cons (ev_op op_pow o_pow ev_int ev_int) ea_nil)) ea_nil))) (by rfl)) (es_cons (es_set (i := 5) B.nd rfl (lc_law_5 rfl) (ev_lst (ea_cons (ev_name (nv_law_2 rfl rfl)) (ea_cons (ev_name (nv_law_4 rfl rfl)) (ea_cons (ev_name (nv_law_3 rfl rfl)) ea_nil))))) (es_cons (es_set (i := 6) B.nd rfl (lc_law_6 rfl) (ev_lst (ea_cons (ev_mkV0 PySem.F.excBase_ValueError ce.x_NoNumber ce.g_NoNumber ce.k_NoNumber (gl_law_NoNumber rfl) rfl (ev_name (nv_law_2 rfl rfl))) (ea_cons (ev_mkV0 PySem.F.excBase_ValueError ce.x_NoPlace ce.g_NoPlace ce.k_NoPlace (gl_law_NoPlace rfl) rfl (ev_name (nv_law_2 rfl rfl))) (ea_cons (ev_mkV0 PySem.F.excBase_ValueError ce.x_NoOrder ce.g_NoOrder ce.k_NoOrder (gl_law_NoOrder rfl) rfl (ev_name (nv_law_2 rfl rfl))) (ea_cons (ev_mkV0 PySem.F.excBase_ValueError ce.x_NoPattern ce.g_NoPattern ce.k_NoPattern (gl_law_NoPattern rfl) rfl (ev_name (nv_law_2 rfl rfl))) (ea_cons (ev_mkV0 PySem.F.excBase_ValueError ce.x_NoLetter ce.g_NoLetter ce.k_NoLetter (gl_law_NoLetter rfl) rfl (ev_name (nv_law_2 rfl rfl))) (ea_cons (ev_mkV0 PySem.F.excBase_ValueError ce.x_NoTicket ce.g_NoTicket ce.k_NoTicket (gl_law_NoTicket rfl) rfl (ev_name (nv_law_2 rfl rfl))) ea_nil)))))))) (es_cons (es_set (i := 6) B.nd rfl (lc_law_6 rfl) (ev_op op_addAll o_add (ev_name (nv_law_6 rfl rfl)) (ev_lst (ea_cons (ev_mkV0 PySem.F.excBase_ValueError ce.x_NoSize ce.g_NoSize ce.k_NoSize (gl_law_NoSize rfl) rfl (ev_name (nv_law_2 rfl rfl))) (ea_cons (ev_mkV0 PySem.F.excBase_ValueError ce.x_NoEnd ce.g_NoEnd ce.k_NoEnd (gl_law_NoEnd rfl) rfl (ev_name (nv_law_2 rfl rfl))) (ea_cons (ev_mkV0 PySem.F.excBase_ValueError ce.x_NoDeed ce.g_NoDeed ce.k_NoDeed (gl_law_NoDeed rfl) rfl (ev_name (nv_law_2 rfl rfl))) (ea_cons (ev_mkV0 PySem.F.excBase_ValueError ce.x_NoText ce.g_NoText ce.k_NoText (gl_law_NoText rfl) rfl (ev_name (nv_law_2 rfl rfl))) (ea_cons (ev_mkV0 PySem.F.excBase_ValueError ce.x_NoRow ce.g_NoRow ce.k_NoRow (gl_law_NoRow rfl) rfl (ev_name (nv_law_2 rfl rfl))) ea_nil)))))))) (es_cons (es_asg (ev_tup (ea_cons (ev_mkV exB_Value Q_NoForm.T Q_NoForm.iC Q_NoForm.tI Q_NoForm.fn (B.room.mono (by decide)) Q_NoForm.bd (gl_law_NoForm rfl) ce.g_NoForm rfl rfl (by decide) (ea_cons (ev_name (nv_law_2 rfl rfl)) ea_nil)) (ea_cons (ev_mkV exB_Value Q_Halted.T Q_Halted.iC Q_Halted.tI Q_Halted.fn (B.room.mono (by decide)) Q_Halted.bd (gl_law_Halted rfl) ce.g_Halted rfl rfl (by decide) (ea_cons (ev_name (nv_law_3 rfl rfl)) (ea_cons (ev_name (nv_law_5 rfl rfl)) ea_nil))) (ea_cons (ev_mkV exB_Lookup Q_NoSuch.T Q_NoSuch.iC Q_NoSuch.tI Q_NoSuch.fn (B.room.mono (by decide)) Q_NoSuch.bd (gl_law_NoSuch rfl) ce.g_NoSuch rfl rfl (by decide) (ea_cons (ev_name (nv_law_5 rfl rfl)) ea_nil)) (ea_cons (ev_mkV exB_Lookup Q_NoStream.T Q_NoStream.iC Q_NoStream.tI Q_NoStream.fn (B.room.mono (by decide)) Q_NoStream.bd (gl_law_NoStream rfl) ce.g_NoStream rfl rfl (by decide) (ea_cons (ev_name (nv_law_2 rfl rfl)) ea_nil)) ea_nil))))) (eg_tup B.calm B.kk (egs_cons (eg_name (pg_name (i := 7) B.nd rfl (lc_law_7 rfl))) (egs_cons (eg_name (pg_name (i := 8) B.nd rfl (lc_law_8 rfl))) (egs_cons (eg_name (pg_name (i := 9) B.nd rfl (lc_law_9 rfl))) (egs_cons (eg_name (pg_name (i := 10) B.nd rfl (lc_law_10 rfl))) egs_nil)))))) (es_cons (es_par3 (i := 11) (j := 12) (l := 13) B.calm B.nd rfl rfl rfl (by decide) (by decide) (by decide) (kl_law_11 rfl) (kl_law_12 rfl) (kl_law_13 rfl) (ev_mkV exB_Runtime Q_Taken.T Q_Taken.iC Q_Taken.tI Q_Taken.fn (B.room.mono (by decide)) Q_Taken.bd (gl_law_Taken rfl) ce.g_Taken rfl rfl (by decide) (ea_cons (ev_name (nv_law_2 rfl rfl)) ea_nil)) (ev_mkV exB_Runtime Q_Same.T Q_Same.iC Q_Same.tI Q_Same.fn (B.room.mono (by decide)) Q_Same.bd (gl_law_Same rfl) ce.g_Same rfl rfl (by decide) (ea_cons (ev_name (nv_law_2 rfl rfl)) ea_nil)) (ev_mkV exB_Runtime Q_Spent.T Q_Spent.iC Q_Spent.tI Q_Spent.fn (B.room.mono (by decide)) Q_Spent.bd (gl_law_Spent rfl) ce.g_Spent rfl rfl (by decide) (ea_cons (ev_name (nv_law_2 rfl rfl)) ea_nil)) (by rfl)) (es_cons (es_par (i := 14) (j := 15) B.calm B.nd rfl rfl (by decide) (kl_law_14 rfl) (kl_law_15 rfl) (ev_mkV exB_Runtime Q_Twice.T Q_Twice.iC Q_Twice.tI Q_Twice.fn (B.room.mono (by decide)) Q_Twice.bd (gl_law_Twice rfl) ce.g_Twice rfl rfl (by decide) (ea_cons (ev_name (nv_law_4 rfl rfl)) ea_nil)) (ev_mkV exB_Arith Q_TooMany.T Q_TooMany.iC Q_TooMany.tI Q_TooMany.fn (B.room.mono (by decide)) Q_TooMany.bd (gl_law_TooMany rfl) ce.g_TooMany rfl rfl (by decide) (ea_cons (ev_name (nv_law_3 rfl rfl)) (ea_cons (ev_op op_addAll o_add (ev_name (nv_law_3 rfl rfl)) ev_int) ea_nil))) (by rfl)) (es_cons (es_set (i := 6) B.nd rfl (lc_law_6 rfl) (ev_op op_addAll o_add (ev_name (nv_law_6 rfl rfl)) (ev_lst (ea_cons (ev_name (nv_law_7 rfl rfl)) (ea_cons (ev_name (nv_law_8 rfl rfl)) (ea_cons (ev_mkV0 PySem.F.excBase_LookupError ce.x_NoBack ce.g_NoBack ce.k_NoBack (gl_law_NoBack rfl) rfl (ev_name (nv_law_2 rfl rfl))) (ea_cons (ev_name (nv_law_9 rfl rfl)) (ea_cons (ev_name (nv_law_10 rfl rfl)) (ea_cons (ev_mkV0 PySem.F.excBase_RuntimeError ce.x_Busy ce.g_Busy ce.k_Busy (gl_law_Busy rfl) rfl (ev_name (nv_law_2 rfl rfl))) (ea_cons (ev_name (nv_law_11 rfl rfl)) (ea_cons (ev_name (nv_law_12 rfl rfl)) (ea_cons (ev_name (nv_law_13 rfl rfl)) (ea_cons (ev_name (nv_law_14 rfl rfl)) (ea_cons (ev_name (nv_law_15 rfl rfl)) ea_nil)))))))))))))) (es_cons (es_if (et_not (et_val (ev_call I_L_are_right.fn (B.room.mono (by decide)) B.gu B.tk (gl_law_L_are_right rfl) I_L_are_right.mg I_L_are_right.kp I_L_are_right.bd (ea_cons (ev_name (nv_law_6 rfl rfl)) ea_nil)))) (es_one (es_ret ev_bl)) es_nil) (es_cons (es_if (PW.pt (ew_or (et_cmp (op_neT B.un64) o_ne (ev_xv B.kk (xf_what ce) (ev_name (nv_law_7 rfl rfl))) (ev_name (nv_law_2 rfl rfl)) (nomark _)) (ew_or1 (et_cmp (op_neT B.un64) o_ne (ev_lst (ea_cons (ev_xv B.kk (xf_number ce) (ev_name (nv_law_8 rfl rfl))) (ea_cons (ev_xv B.kk (xf_answers ce) (ev_name (nv_law_8 rfl rfl))) (ea_cons (ev_xv B.kk (xf_name ce) (ev_name (nv_law_9 rfl rfl))) ea_nil)))) (ev_lst (ea_cons (ev_name (nv_law_3 rfl rfl)) (ea_cons (ev_name (nv_law_5 rfl rfl)) (ea_cons (ev_name (nv_law_5 rfl rfl)) ea_nil)))) (nomark _))))) (es_one (es_ret ev_bl)) es_nil) (es_cons (es_if (PW.pt (ew_or (et_cmp (op_neT B.un64) o_ne (ev_lst (ea_cons (ev_xv B.kk (xf_letter ce) (ev_name (nv_law_10 rfl rfl))) (ea_cons (ev_xv B.kk (xf_name ce) (ev_name (nv_law_11 rfl rfl))) (ea_cons (ev_xv B.kk (xf_name ce) (ev_name (nv_law_12 rfl rfl))) ea_nil)))) (ev_op op_mulAll o_mulS (ev_lst (ea_cons (ev_name (nv_law_2 rfl rfl)) ea_nil)) ev_int) (nomark _)) (ew_or1 (et_cmp (op_neT B.un64) o_ne (ev_xv B.kk (xf_letter ce) (ev_name (nv_law_13 rfl rfl))) (ev_name (nv_law_2 rfl rfl)) (nomark _))))) (es_one (es_ret ev_bl)) es_nil) (es_one (es_ret (ev_cmp (op_eqT B.un64) o_eq (ev_lst (ea_cons (ev_xv B.kk (xf_ticket ce) (ev_name (nv_law_14 rfl rfl))) (ea_cons (ev_xv B.kk (xf_tickets ce) (ev_name (nv_law_15 rfl rfl))) (ea_cons (ev_xv B.kk (xf_lines ce) (ev_name (nv_law_15 rfl rfl))) ea_nil)))) (ev_lst (ea_cons (ev_name (nv_law_4 rfl rfl)) (ea_cons (ev_name (nv_law_3 rfl rfl)) (ea_cons (ev_op op_addAll o_add (ev_name (nv_law_3 rfl rfl)) ev_int) ea_nil)))) (nomark _)))))))))))))))))
end K18
/-! Fm: lines that stand apart, forms, plain (no program). -/
namespace Fm
open PySem
abbrev Tt := Str × Int
structure Ln where
  l : Str
  f : Int
  s : Int
deriving DecidableEq
/-- the two lines have no ticket in common, however far back they go -/
def Apart (a b : Ln) : Prop := a.l = b.l → ¬ ((Int.gcd a.s b.s : Int) ∣ b.f - a.f)
/-- the line tells the ticket -/
def tells (a : Ln) (t : Tt) : Prop := t.1 = a.l ∧ a.f ≤ t.2 ∧ a.s ∣ t.2 - a.f
/-- the ticket is not of the line's numbers, however far back it goes -/
def Off (t : Tt) (a : Ln) : Prop := t.1 = a.l → ¬ (a.s ∣ t.2 - a.f)
theorem Apart.symm {a b : Ln} (h : Apart a b) : Apart b a := fun e d => h e.symm (by
  rw [Int.gcd_comm] at d
  have := Int.dvd_neg.mpr d
  rw [show -(a.f - b.f) = b.f - a.f by omega] at this
  exact this)
theorem gl {a b : Int} : (Int.gcd a b : Int) ∣ a := Int.gcd_dvd_left _ _
theorem gr {a b : Int} : (Int.gcd a b : Int) ∣ b := Int.gcd_dvd_right _ _
/-- a number of both -/
theorem Apart.off {a b : Ln} (h : Apart a b) {t : Tt} (h1 : t.1 = a.l) (h2 : a.s ∣ t.2 - a.f) : Off t b := fun e d => h (h1.symm.trans e) (by
  have d1 := Int.dvd_trans (gl (a := a.s) (b := b.s)) h2
  have d2 := Int.dvd_trans (gr (a := a.s) (b := b.s)) d
  have := Int.dvd_sub d1 d2
  rw [show t.2 - a.f - (t.2 - b.f) = b.f - a.f by omega] at this
  exact this)
theorem Off.no {t : Tt} {a : Ln} (h : Off t a) : ¬ tells a t := fun z => h z.1 z.2.2
/-- a line some turns on (or back) -/
def Ln.on (a : Ln) (k : Int) : Ln := ⟨a.l, a.f + k * a.s, a.s⟩
theorem dvd_shift {s x k : Int} : s ∣ x - k * s ↔ s ∣ x := by
  constructor
  · intro h
    have := Int.dvd_add h (Int.dvd_mul_left k s)
    rwa [show x - k * s + k * s = x by omega] at this
  · intro h
    exact Int.dvd_sub h (Int.dvd_mul_left k s)
theorem Apart.on_left {a b : Ln} (h : Apart a b) (k : Int) : Apart (a.on k) b := fun e d => h e (by
  simp only [Ln.on] at d
  have d1 := Int.dvd_trans (gl (a := a.s) (b := b.s)) (Int.dvd_mul_left k a.s)
  have := Int.dvd_add d d1
  rwa [show b.f - (a.f + k * a.s) + k * a.s = b.f - a.f by omega] at this)
theorem Apart.on {a b : Ln} (h : Apart a b) (k j : Int) : Apart (a.on k) (b.on j) := ((h.on_left k).symm.on_left j).symm
theorem Off.on {t : Tt} {a : Ln} (h : Off t a) (k : Int) : Off t (a.on k) := fun e d => h e (by
  simp only [Ln.on] at d
  rw [show t.2 - (a.f + k * a.s) = t.2 - a.f - k * a.s by omega] at d
  exact dvd_shift.mp d)
/-- a part of a line -/
def Ln.part (a : Ln) (m k : Int) : Ln := ⟨a.l, a.f + k * a.s, a.s * m⟩
/-- a form of which no ticket is told twice -/
structure Ok (H : List Tt) (T : List Ln) : Prop where
  nd : H.Nodup
  ap : T.Pairwise Apart
  no : ∀ t ∈ H, ∀ a ∈ T, ¬ tells a t
theorem Ok.sub {H H' : List Tt} {T T' : List Ln} (o : Ok H T) (h : H'.Sublist H) (t : T'.Sublist T) : Ok H' T' :=
  ⟨o.nd.sublist h, o.ap.sublist t, fun x hx a ha => o.no x (h.subset hx) a (t.subset ha)⟩
/-- a form grown line by line: of the lines to come every ticket of the head is off -/
structure Grown (H : List Tt) (T R : List Ln) : Prop where
  nd : H.Nodup
  ap : (T ++ R).Pairwise Apart
  no : ∀ t ∈ H, ∀ a ∈ T, ¬ tells a t
  off : ∀ t ∈ H, ∀ a ∈ R, Off t a
theorem Grown.ok {H : List Tt} {T : List Ln} (g : Grown H T []) : Ok H T := ⟨g.nd, by simpa using g.ap, g.no⟩
theorem Grown.start {R : List Ln} (h : R.Pairwise Apart) : Grown [] [] R := ⟨List.nodup_nil, by simpa using h, by simp, by simp⟩
/-- E: tickets of the line's first turns, u: the turns it begins late -/
theorem Grown.step {H : List Tt} {T R : List Ln} {a : Ln} (g : Grown H T (a :: R)) (hs : 0 < a.s) {E : List Tt} {u : Int} (hE : E.Nodup) (he : ∀ t ∈ E, ∃ k : Int, t = (a.l, a.f + k * a.s) ∧ k < u) (b : Bool) :
    Grown (H ++ E) (if b then T ++ [a.on u] else T) R := by
  have ap := g.ap
  rw [List.pairwise_append] at ap
  obtain ⟨apT, apR, apTR⟩ := ap
  rw [List.pairwise_cons] at apR
  have e2 : ∀ t ∈ E, t.1 = a.l ∧ a.s ∣ t.2 - a.f := fun t ht => by
    obtain ⟨k, rfl, _⟩ := he t ht
    refine ⟨rfl, ?_⟩
    simp only
    rw [show a.f + k * a.s - a.f = k * a.s by omega]
    exact Int.dvd_mul_left _ _
  have noT : ∀ t ∈ H ++ E, ∀ c ∈ T, ¬ tells c t := fun t ht c hc => by
    rcases List.mem_append.mp ht with ht | ht
    · exact g.no t ht c hc
    · exact ((apTR c hc a List.mem_cons_self).symm.off (e2 t ht).1 (e2 t ht).2).no
  refine ⟨?_, ?_, ?_, ?_⟩
  · rw [List.nodup_append]
    refine ⟨g.nd, hE, fun x hx y hy e => ?_⟩
    subst e
    exact g.off x hx a List.mem_cons_self (e2 x hy).1 (e2 x hy).2
  · have base : (T ++ R).Pairwise Apart := by
      rw [List.pairwise_append]
      exact ⟨apT, apR.2, fun x hx y hy => apTR x hx y (List.mem_cons_of_mem _ hy)⟩
    cases b with
    | false => exact base
    | true =>
      simp only [if_true, List.append_assoc, List.singleton_append]
      rw [List.pairwise_append]
      refine ⟨apT, ?_, fun x hx y hy => ?_⟩
      · rw [List.pairwise_cons]
        exact ⟨fun c hc => (apR.1 c hc).on_left u, apR.2⟩
      · rcases List.mem_cons.mp hy with rfl | hy
        · exact ((apTR x hx a List.mem_cons_self).symm.on_left u).symm
        · exact apTR x hx y (List.mem_cons_of_mem _ hy)
  · cases b with
    | false => exact noT
    | true =>
      intro t ht c hc
      simp only [if_true] at hc
      rcases List.mem_append.mp hc with hc | hc
      · exact noT t ht c hc
      · rw [List.mem_singleton] at hc
        subst hc
        rcases List.mem_append.mp ht with ht | ht
        · exact ((g.off t ht a List.mem_cons_self).on u).no
        · obtain ⟨k, rfl, hk⟩ := he t ht
          intro z
          have h1 := z.2.1
          simp only [Ln.on] at h1
          have : (k - u) * a.s < 0 := Int.mul_neg_of_neg_of_pos (by omega) hs
          rw [Int.sub_mul] at this
          omega
  · intro t ht c hc
    rcases List.mem_append.mp ht with ht | ht
    · exact g.off t ht c (List.mem_cons_of_mem _ hc)
    · exact (apR.1 c hc).off (e2 t ht).1 (e2 t ht).2
/-! what stands where -/
def Ln.at (a : Ln) (k : Int) : Tt := (a.l, a.f + k * a.s)
theorem Apart.two {a b : Ln} (h : Apart a b) {t : Tt} (h1 : tells a t) (h2 : tells b t) : False := (h.off h1.1 h1.2.2).no h2
/-- the ticket at a place of a form -/
def stand (H : List Tt) (T : List Ln) (p : Nat) : Option Tt := if p < H.length then H[p]? else (T[(p - H.length) % T.length]?).map fun a => a.at ((p - H.length) / T.length : Nat)
end Fm
/-! TkE: tools to run mirrors: comprehensions, ==, repr, tickets and lines as data. -/
namespace Tk
open PySem Fm
theorem comp_inv {vs : List Nat} {g : GF} {t : TF} {f : UF} (I : Nat → List D → Env → Prop) : ∀ (ds : List D) (k : Nat) (acc : List D) (env : Env), (∀ (i : Nat) d acc env, ds[i]? = some d → I (k + i) acc env → ∃ e1 b e2, g d env = some (.ok () e1) ∧ e1.length = env.length ∧ t e1 = some (.ok b e2) ∧ (b = false → I (k + i + 1) acc (wipeE e2 vs)) ∧ (b = true → ∃ y e3, f e2 = some (.ok y e3) ∧ I (k + i + 1) (acc ++ [y]) (wipeE e3 vs))) →
    I k acc env → acc.length + ds.length ≤ 1000000 → ∃ acc' env', compG vs g t f ds acc env = some (.ok acc' env') ∧ I (k + ds.length) acc' env'
  | [], k, acc, env, _, hi, _ => ⟨acc, env, by unfold compG; rfl, hi⟩
  | d :: ds, k, acc, env, h, hi, hl => by
    obtain ⟨e1, b, e2, h1, h2, h3, h4, h5⟩ := h 0 d acc env rfl hi
    rw [List.length_cons] at hl
    have nxt : ∀ (i : Nat) d' acc env, ds[i]? = some d' → I (k + 1 + i) acc env → _ := fun i d' acc env hd hi' => h (i + 1) d' acc env hd (by rw [show k + (i + 1) = k + 1 + i by omega]; exact hi')
    unfold compG
    rw [h1, bd_ok, if_pos h2, h3, bd_ok]
    cases b with
    | false =>
      rw [if_neg Bool.false_ne_true]
      obtain ⟨acc', env', h6, h7⟩ := comp_inv I ds (k + 1) acc _ (fun i d' acc env hd hi' => by
        have := nxt i d' acc env hd hi'
        rw [show k + (i + 1) + 1 = k + 1 + i + 1 by omega] at this
        exact this) (h4 rfl) (by omega)
      exact ⟨acc', env', h6, by rw [List.length_cons, show k + (ds.length + 1) = k + 1 + ds.length by omega]; exact h7⟩
    | true =>
      obtain ⟨y, e3, h8, h9⟩ := h5 rfl
      rw [if_pos rfl, h8, bd_ok, if_pos (show szOk acc.length = true from decide_eq_true (by omega))]
      obtain ⟨acc', env', h6, h7⟩ := comp_inv I ds (k + 1) (acc ++ [y]) _ (fun i d' acc env hd hi' => by
        have := nxt i d' acc env hd hi'
        rw [show k + (i + 1) + 1 = k + 1 + i + 1 by omega] at this
        exact this) h9 (by simp; omega)
      exact ⟨acc', env', h6, by rw [List.length_cons, show k + (ds.length + 1) = k + 1 + ds.length by omega]; exact h7⟩
/-- a comprehension whose turns change the rest -/
theorem lc_run {vs : List Nat} {g : GF} {t : TF} {f : UF} (I : Nat → List D → Env → Prop) (ds : List D) (e : Env) (h0 : I 0 [] (wipeE e vs))
    (h : ∀ (i : Nat) d acc env, ds[i]? = some d → I i acc env → ∃ e1 b e2, g d env = some (.ok () e1) ∧ e1.length = env.length ∧ t e1 = some (.ok b e2) ∧ (b = false → I (i + 1) acc (wipeE e2 vs)) ∧ (b = true → ∃ y e3, f e2 = some (.ok y e3) ∧ I (i + 1) (acc ++ [y]) (wipeE e3 vs)))
    (hl : ds.length ≤ 1000000) (len : ∀ acc env, I ds.length acc env → env.length = e.length) : ∃ acc e2, lcK vs g t f ds e = some (.ok (.fresh (.lst acc)) (unwipe e e2 vs)) ∧ I ds.length acc e2 := by
  obtain ⟨acc, e2, h1, h2⟩ := comp_inv (vs := vs) (g := g) (t := t) (f := f) I ds 0 [] (wipeE e vs) (fun i d acc env hd hi => by
    have := h i d acc env hd (by rw [Nat.zero_add] at hi; exact hi)
    rw [show 0 + i + 1 = i + 1 by omega]
    exact this) h0 (by simpa using hl)
  rw [Nat.zero_add] at h2
  refine ⟨acc, e2, ?_, h2⟩
  unfold lcK
  rw [h1]
  simp only
  rw [if_pos (len acc e2 h2)]
theorem ints_get {n i : Nat} {d : D} (h : (Tk.intsFrom 0 n)[i]? = some d) : i < n ∧ d = .int i := by
  have hi : i < n := by
    have := (List.getElem?_eq_some_iff.mp h).1
    simpa [Tk.intsFrom] using this
  refine ⟨hi, ?_⟩
  unfold Tk.intsFrom at h
  rw [List.getElem?_map, List.getElem?_range hi] at h
  simp at h
  exact h.symm
theorem ints_len {lo : Int} {n : Nat} : (Tk.intsFrom lo n).length = n := by simp [Tk.intsFrom]
theorem s62 {n : Nat} (h : n ≤ 1000000) : small62 (n : Int) = true := by
  unfold small62
  exact decide_eq_true (by omega)
/-! ### data that may be compared and shown -/
structure Fine (B k n : Nat) (d : D) (p : PyData) : Prop where
  t : toPy d = some p
  c : PyData.canLay0 p = true
  d : PyData.depth p ≤ k
  s : PyData.showable p = true
  l : PyData.leavesShort B p = true
  b : PyData.bulk p ≤ n
structure Fines (B k n : Nat) (ds : List D) (ps : List PyData) : Prop where
  t : toPys ds = some ps
  c : PyData.canLayAll0 ps = true
  d : PyData.depthAll ps ≤ k
  s : PyData.showableAll ps = true
  l : PyData.leavesShortAll B ps = true
  b : PyData.bulkAll ps ≤ n
section
variable {B k n k' n' : Nat} {d d' : D} {p p' : PyData} {ds : List D} {ps : List PyData}
theorem Fine.more (h : Fine B k n d p) (hk : k ≤ k') (hn : n ≤ n') : Fine B k' n' d p := ⟨h.t, h.c, Nat.le_trans h.d hk, h.s, h.l, Nat.le_trans h.b hn⟩
theorem Fines.more (h : Fines B k n ds ps) (hk : k ≤ k') (hn : n ≤ n') : Fines B k' n' ds ps := ⟨h.t, h.c, Nat.le_trans h.d hk, h.s, h.l, Nat.le_trans h.b hn⟩
theorem fi_int {i : Int} (h : i.natAbs < 10 ^ 190) : Fine 200 k n (.int i) (.int i) := ⟨by simp [toPy], by simp [PyData.canLay0], by simp [PyData.depth], int_show (Nat.lt_trans h (by decide +kernel)), by
  have := int_short (by omega) h
  simp only [PyData.leavesShort, decide_eq_true_eq]
  omega, by simp [PyData.bulk]⟩
theorem fi_str {x : Str} (h : StrOk x) (hn : 20 ≤ n) : Fine B k n (.str x) (.str x) := ⟨by simp [toPy], by simp [PyData.canLay0, h.1], by simp [PyData.depth], by simp [PyData.showable], by simp only [PyData.leavesShort]; exact h.2.1, by simp only [PyData.bulk]; exact Nat.le_trans h.2.2 hn⟩
theorem fi_ltr {c : Nat} (h : c < 128) (hn : 1 ≤ n) : Fine B k n (.str ⟨#[c]⟩) (.str ⟨#[c]⟩) := ⟨by simp [toPy], by simp [PyData.canLay0, (StrOk.ltr h).1], by simp [PyData.depth], by simp [PyData.showable], by simp only [PyData.leavesShort]; exact (StrOk.ltr h).2.1, by simp only [PyData.bulk]; exact hn⟩
theorem fi_tup (h : Fines B k n ds ps) : Fine B (k + 1) n (.tup ds) (.tuple ps) := ⟨by simp [toPy, h.t], by simp only [PyData.canLay0]; exact h.c, by simp only [PyData.depth]; have := h.d; omega, by simp only [PyData.showable]; exact h.s, by simp only [PyData.leavesShort]; exact h.l, by simp only [PyData.bulk]; exact h.b⟩
theorem fi_lst (h : Fines B k n ds ps) : Fine B (k + 1) n (.lst ds) (.list ps) := ⟨by simp [toPy, h.t], by simp only [PyData.canLay0]; exact h.c, by simp only [PyData.depth]; have := h.d; omega, by simp only [PyData.showable]; exact h.s, by simp only [PyData.leavesShort]; exact h.l, by simp only [PyData.bulk]; exact h.b⟩
theorem fs_nil : Fines B k n [] [] := ⟨by simp [toPys], by simp [PyData.canLayAll0], by simp [PyData.depthAll], by simp [PyData.showableAll], by simp [PyData.leavesShortAll], by simp [PyData.bulkAll]⟩
theorem fs_cons (h : Fine B k n d p) (r : Fines B k n' ds ps) : Fines B k (n + 1 + n') (d :: ds) (p :: ps) := ⟨by simp [toPys, h.t, r.t], by simp only [PyData.canLayAll0, h.c, r.c, Bool.and_self], by simp only [PyData.depthAll]; exact Nat.max_le.mpr ⟨h.d, r.d⟩, by simp only [PyData.showableAll, h.s, r.s, Bool.and_self], by simp only [PyData.leavesShortAll, h.l, r.l, Bool.and_self], by simp only [PyData.bulkAll]; have := h.b; have := r.b; omega⟩
theorem Fine.shaped (h : Fine B k n d p) (hk : k ≤ 64) : SeqAt.shaped p = true := by
  unfold SeqAt.shaped
  rw [h.c, decide_eq_true (Nat.le_trans h.d hk)]
  rfl
theorem Fine.eq (neg : Bool) (h : Fine B k n d p) (h' : Fine B k' n' d' p') (hk : k ≤ 64 := by omega) (hk' : k' ≤ 64 := by omega) : eqF neg d d' = some (.dat (.bl (neg ^^ PyData.eqv p p'))) := eqF_of h.t h'.t (h.shaped hk) (h'.shaped hk')
theorem Fine.repr (h : Fine B k n d p) (hB : 8 ≤ B := by omega) (hk : k ≤ 64 := by omega) (hn : (B + 2) * n + B ≤ 1000000 := by omega) : fRepr d = some (.dat (.str p.shown)) :=
  fRepr_of hB h.t ⟨h.s, h.shaped hk, h.l, PyData.hasDict_of_canLay p h.c, Nat.le_trans (Nat.add_le_add_right (Nat.mul_le_mul_left _ h.b) _) hn⟩
end
mutual
theorem eqv_self : ∀ p : PyData, PyData.canLay0 p = true → PyData.eqv p p = true
  | .none, _ => by simp [PyData.eqv]
  | .bool b, _ => by simp [PyData.eqv]
  | .int i, _ => by simp [PyData.eqv]
  | .str x, _ => by simp [PyData.eqv]
  | .list l, h => by
    simp only [PyData.eqv]
    exact eqvs_self l (by simpa only [PyData.canLay0] using h)
  | .tuple l, h => by
    simp only [PyData.eqv]
    exact eqvs_self l (by simpa only [PyData.canLay0] using h)
  | .dict l, h => by simp [PyData.canLay0] at h
theorem eqvs_self : ∀ p : List PyData, PyData.canLayAll0 p = true → PyData.eqvAll p p = true
  | [], _ => by simp [PyData.eqvAll]
  | p :: l, h => by
    simp only [PyData.canLayAll0, Bool.and_eq_true] at h
    simp only [PyData.eqvAll, eqv_self p h.1, eqvs_self l h.2, Bool.and_self]
end
theorem Fine.same {B k n : Nat} {d : D} {p : PyData} (neg : Bool) (h : Fine B k n d p) (hk : k ≤ 64 := by omega) : eqF neg d d = some (.dat (.bl (neg ^^ true))) := by
  rw [h.eq neg h hk hk, eqv_self p h.c]
/-- a small letter -/
def Lz (x : Str) : Prop := ∃ c, x = ⟨#[c]⟩ ∧ 97 ≤ c ∧ c ≤ 122
theorem Lz.len {x : Str} (h : Lz x) : x.length = 1 := by
  obtain ⟨c, rfl, _⟩ := h
  rfl
theorem Lz.ok {x : Str} (h : Lz x) : StrOk x := by
  obtain ⟨c, rfl, h1, h2⟩ := h
  exact .ltr (by omega)
/-- data whose kind is known; texts not too long -/
def Pl : D → Prop
  | .str x => x.length ≤ 1000000
  | .obj _ _ => False
  | .exv _ _ => False
  | .fn _ => False
  | .scr _ => False
  | _ => True
def smallC (c : Nat) : Bool := decide (97 ≤ c) && decide (c ≤ 122)
def nameB : D → Bool
  | .str x => decide (1 ≤ x.length) && decide (x.length ≤ 8) && x.cps.toList.all smallC
  | _ => false
def letterB : D → Bool
  | .str x => decide (x.length = 1) && x.cps.toList.all smallC
  | _ => false
def wholeB : D → Bool
  | .int i => decide (0 ≤ i)
  | _ => false
def belowB (n : Nat) : D → Bool
  | .int i => decide (i < n)
  | _ => false
def ticketB : D → Bool
  | .tup [a, b] => letterB a && wholeB b
  | _ => false
def posB : D → Bool
  | .int i => decide (0 < i)
  | _ => false
def lineB : D → Bool
  | .tup [a, b, c] => letterB a && wholeB b && posB c
  | _ => false
def Pls : D → Prop
  | .tup l => ∀ d ∈ l, Pl d
  | d => Pl d
theorem lz_letter {x : Str} (h : Lz x) : letterB (.str x) = true := by
  obtain ⟨c, rfl, h1, h2⟩ := h
  simp [letterB, smallC, h1, h2]
  rfl
/-! ### tickets, lines -/
abbrev tD (t : Tt) : D := .tup [.str t.1, .int t.2]
abbrev lD (a : Ln) : D := .tup [.str a.l, .int a.f, .int a.s]
abbrev tP (t : Tt) : PyData := .tuple [.str t.1, .int t.2]
abbrev lP (a : Ln) : PyData := .tuple [.str a.l, .int a.f, .int a.s]
/-- numbers from 0 to a bound -/
structure Tq (N : Nat) (t : Tt) : Prop where
  l : Lz t.1
  n0 : 0 ≤ t.2
  n1 : t.2 < N
structure Lq (N : Nat) (a : Ln) : Prop where
  l : Lz a.l
  f0 : 0 ≤ a.f
  f1 : a.f < N
  s0 : 0 < a.s
  s1 : a.s < N
theorem Tq.more {N M : Nat} {t : Tt} (h : Tq N t) (hm : N ≤ M) : Tq M t := ⟨h.l, h.n0, by have := h.n1; omega⟩
theorem Lq.more {N M : Nat} {t : Ln} (h : Lq N t) (hm : N ≤ M) : Lq M t := ⟨h.l, h.f0, by have := h.f1; omega, h.s0, by have := h.s1; omega⟩
abbrev fD (H : List Tt) (T : List Ln) : D := .tup [.tup (H.map tD), .tup (T.map lD)]
abbrev fP (H : List Tt) (T : List Ln) : PyData := .tuple [.tuple (H.map tP), .tuple (T.map lP)]
/-! what the program works out of tickets and lines -/
def tellsB (a : Ln) (t : Tt) : Bool := decide (t.1 = a.l) && decide (a.f ≤ t.2) && decide ((t.2 - a.f) % a.s = 0)
def backD (a : Ln) (t : Tt) : D := if tellsB a t = true then .int ((t.2 - a.f) / a.s) else .non
def meetB (a b : Ln) : Bool := decide (a.l = b.l) && decide ((b.f - a.f) % (Int.gcd a.s b.s : Int) = 0)
def metB (T : List Ln) (k : Nat) : Bool := match T[k]? with
  | some a => (T.take k).any fun b => meetB b a
  | none => false
def allB (b : D → Bool) : D → Bool
  | .tup l => decide (l.length ≤ 240) && l.all b
  | _ => false
/-- the parts' parts are plain -/
def Plss : D → Prop
  | .tup l => ∀ d ∈ l, Pls d
  | d => Pl d
theorem Lz.pl {x : Str} (h : Lz x) : Pl (.str x) := by
  show x.length ≤ 1000000
  rw [h.len]
  omega
theorem Tq.is {N : Nat} {t : Tt} (h : Tq N t) : ticketB (tD t) = true := by simp [ticketB, lz_letter h.l, wholeB, h.n0]
theorem Lq.is {N : Nat} {t : Ln} (h : Lq N t) : lineB (lD t) = true := by simp [lineB, lz_letter h.l, wholeB, posB, h.f0, h.s0]
end Tk
/-! TkU: a suite, statement by statement. -/
namespace Tk
theorem seq_ok {s t : SF} {env e2 : Env} {r : Option (Rs Fl)} (h : s env = some (.ok .next e2)) (k : t e2 = r) : sSeq s t env = r := by
  unfold sSeq
  rw [h]
  exact k
end Tk
/-! Fm2: forms made longer. -/
namespace Fm
open PySem
/-- the line at a place of a tail, from there on -/
def onP (T : List Ln) (p : Nat) : Ln := ((T[p % T.length]?).getD ⟨⟨#[]⟩, 0, 0⟩).on ((p / T.length : Nat) : Int)
/-- told so much seldomer -/
def Ln.slow (a : Ln) (t : Nat) : Ln := ⟨a.l, a.f, a.s * t⟩
def Ln.tick (a : Ln) : Tt := (a.l, a.f)
def lgH (H : List Tt) (T : List Ln) (m : Nat) : List Tt := H ++ (List.range m).map fun k => (onP T k).tick
def lgT (T : List Ln) (m t : Nat) : List Ln := (List.range (T.length * t)).map fun k => (onP T (m + k)).slow t
end Fm
/-! Fm21: how often a sign stands in a text. -/
namespace Fm
open PySem PySem.Spec L2
def occS (x : Str) (c : Nat) (s : Array Nat × Nat) (i : Nat) : Array Nat × Nat := if ((s.1.size < x.length + 1 ∧ s.2 ≤ i) ∧ i + 1 ≤ x.length) ∧ Builtin.Str.subAt x ⟨#[c]⟩ i = true then (s.1.push i, i + 1) else s
end Fm
/-! Fm26: texts by their signs: split and partition at one sign, strip, figures. -/
namespace Fm
open PySem PySem.Spec L2 PySem.W PySem.W.KIN PySem.NumText PyProof.Rows
def tx (l : List Nat) : Str := ⟨l.toArray⟩
theorem tx_list (l : List Nat) : (tx l).cps.toList = l := rfl
theorem tx_len (l : List Nat) : (tx l).length = l.length := by simp [tx, Str.length]
theorem tx_app (a b : List Nat) : tx a ++ tx b = tx (a ++ b) := by
  show (⟨a.toArray ++ b.toArray⟩ : Str) = ⟨(a ++ b).toArray⟩
  simp
/-! the places of a sign -/
def occL (L : Nat) (x : Str) (c : Nat) (s : Array Nat × Nat) (i : Nat) : Array Nat × Nat := if (((s.1.size < L ∧ s.2 ≤ i) ∧ i + 1 ≤ x.length) ∧ Builtin.Str.subAt x ⟨#[c]⟩ i = true) then (s.1.push i, i + 1) else s
/-! split -/
def splitL (c : Nat) : List Nat → List (List Nat)
  | [] => [[]]
  | x :: l => if x = c then [] :: splitL c l else match splitL c l with
    | [] => [[x]]
    | p :: r => (x :: p) :: r
def joinL (c : Nat) : List (List Nat) → List Nat
  | [] => []
  | [x] => x
  | x :: y :: r => x ++ c :: joinL c (y :: r)
/-! figures -/
def digs (m : Nat) : List Nat := (Nat.toDigits 10 m).map Char.toNat
end Fm
namespace K18
open PySem Tk Fm
local macro_rules | `(tactic| simp! [$ls,*]) => `(tactic| simp [runP, runM, startE, startM, sSeq, seqK, sNil, sRet, sRetN, sExpr, sIf, sSet, setK, sAsg, sPar, parK, rsl, sAug, sFor, cTest, tAndF, tOrF, tNotF, tYesF, tChainF, chK, cAndV, cOrV, cNotV, cIfE, cBin, cUn, fin1, fin2, peek, cName, cC, cTup, cLst, aNil, aCons, cUse, use, bd, RV.out, RV.cell, cCall, callK, cCallM, callMK, cCallT, cCallK, pick, ownAt, own0, not0, retOf, gNm, gTp, gsCons, gsNil, gIx, iRg1, iRg2, iIt, iter1, cSl, oNone, oSome, fSl, fII, fII0, fAdd, fIAdd, fIx, fLen, fNeg, fAbs, fInt, fIsN, isNon, sPar3, parK3, iEn, gTpL, fIsB, sRaiseF, cXf, iZs, cChainV, chV, sRaise, sTryAs, leaveX, noX, outX, cIsE, cDct0, fAll, fAny, blsOf, blOf, fTuple, cMeth, fAppend, cBot, sBot, fFld, cMe, cMake, makeK, putO, sFldSet, fIsC, fEqO, okR, tyName, $ls,*])
def Pot (d : D) : Prop := ∃ a b : Int, d = .lst [.int a, .int b] ∧ 0 ≤ a ∧ 0 ≤ b ∧ b < 2 ^ 32
theorem digit {d : D} {m : Int} (h : Pot d) (h0 : 0 < m) (h1 : m.natAbs < 2 ^ 2000) : ∃ r d', P_L_digit d [.int m] = some (.ok (.dat (.int r)) d') ∧ 0 ≤ r ∧ r < m ∧ Pot d' := by
  obtain ⟨a, b, rfl, ha, hb, hb2⟩ := h
  have hd : divOk a m = true := divOk_of h0 h1
  by_cases hp : 0 < a
  · refine ⟨a % m, .lst [.int (a / m), .int b], ?_, Int.emod_nonneg _ (by omega), Int.emod_lt_of_pos _ h0, a / m, b, rfl, Int.ediv_nonneg ha (by omega), hb, hb2⟩
    simp! [P_L_digit, g_L_digit, L2.atI, L2.ixN, hp, hd]
  · have m1 : mulOk b 39373 = true := mulOk_of (sm (m := 4294967296) hb (by omega)) (by decide +kernel)
    have b0 : 0 ≤ (b * 39373 + 12227) % 2147483629 := Int.emod_nonneg _ (by omega)
    have b1 : (b * 39373 + 12227) % 2147483629 < 2147483629 := Int.emod_lt_of_pos _ (by omega)
    generalize hB : (b * 39373 + 12227) % 2147483629 = B at *
    have m2 : mulOk B B = true := mulOk_of (sm (m := 4294967296) b0 (by omega)) (sm (m := 4294967296) b0 (by omega))
    have m3 : divOk (B * B % 2147483563) 13 = true := divOk_of (by omega) (by decide +kernel)
    refine ⟨B * B % 2147483563 / 13 % m, .lst [.int a, .int B], ?_, Int.emod_nonneg _ (by omega), Int.emod_lt_of_pos _ h0, a, B, rfl, ha, b0, by omega⟩
    simp! [P_L_digit, g_L_digit, L2.atI, L2.ixN, hp, m1, hB, m2, m3, h0]
def Ltr (x : Str) : Prop := ∃ c, x = ⟨#[c]⟩ ∧ c < 128
theorem Ltr.ok {x : Str} (h : Ltr x) : StrOk x := by
  obtain ⟨c, rfl, hc⟩ := h
  exact .ltr hc

theorem pot {ns : List Int} {k : Nat} (hk : k < 63) : ∃ d, P_L_pot [.scr ns, .int k] = some (.ok (.fresh d)) ∧ Pot d := by
  have hpw : powOk 10 18 = true := powOk_lit (by decide) (by decide) (by decide)
  have fin : ∀ c : Int, mulOk ((if c < 0 then -c else c) % 2147483629) 48271 = true := fun c => by
    have h0 := Int.emod_nonneg (if c < 0 then -c else c) (show (2147483629 : Int) ≠ 0 by decide)
    have h1 := Int.emod_lt_of_pos (if c < 0 then -c else c) (show (0 : Int) < 2147483629 by decide)
    exact mulOk_of (sm (m := 4294967296) h0 (by omega)) (by decide +kernel)
  have hk2 : mulOk 60013 (k : Int) = true := mulOk_of (by decide +kernel) (sm (m := 100) (by omega) (by omega))
  have ok : ∀ c : Int, Pot (.lst [.int (if (if c < 0 then -c else c) - 10 ^ 18 > 0 then (if c < 0 then -c else c) - 10 ^ 18 else 0), .int (((if c < 0 then -c else c) % 2147483629 * 48271 + 60013 * k + 29) % 2147483647)]) := fun c => by
    refine ⟨_, _, rfl, ?_, Int.emod_nonneg _ (by decide), ?_⟩
    · split <;> omega
    · have := Int.emod_lt_of_pos ((if c < 0 then -c else c) % 2147483629 * 48271 + 60013 * k + 29) (show (0 : Int) < 2147483647 by decide)
      omega
  by_cases h : k < ns.length
  · have hat : L2.atI ns (k : Int) = some ns[k] := L2.atI_nat (List.getElem?_eq_getElem h)
    refine ⟨_, ?_, ok ns[k]⟩
    simp! [P_L_pot, g_L_pot, h, hat, hpw, fin, hk2, szOk]
  · refine ⟨_, ?_, ok 0⟩
    have := fin 0
    simp at this
    simp! [P_L_pot, g_L_pot, h, hpw, hk2, szOk, this]

theorem nil_tx : (Str.ofString "") = tx [] := by decide +kernel
theorem join0 : ∀ L : List (List Nat), Str.join (Str.ofString "") (L.map tx) = tx (L.flatMap id)
  | [] => rfl
  | [a] => by simp [Str.join]
  | a :: b :: L => by
    have ih := join0 (b :: L)
    have e : Str.join (Str.ofString "") ((a :: b :: L).map tx) = tx a ++ Str.ofString "" ++ Str.join (Str.ofString "") ((b :: L).map tx) := rfl
    rw [e, ih, nil_tx, tx_app, tx_app, List.append_nil]
    rfl
theorem joinW (l : List Nat) (hl : l.length ≤ 60) : fJoinC (Str.ofString "") (.lst (l.map fun c => D.str (tx [c]))) = some (.dat (.str (tx l))) := by
  have e : l.map (fun c => D.str (tx [c])) = (l.map fun c => tx [c]).map D.str := by rw [List.map_map]; rfl
  have le : ((l.map fun c => tx [c]).map (·.length)).sum = l.length := by
    induction l with
    | nil => rfl
    | cons a l ih =>
      have := ih (by simp at hl; omega) (by rw [List.map_map]; rfl)
      rw [List.map_cons, List.map_cons, List.sum_cons, this, tx_len, List.length_cons]
      simp
      omega
  have j : Txt.join (Str.ofString "") (l.map fun c => tx [c]) = tx l := by
    have h := join0 (l.map fun c => [c])
    rw [List.map_map, List.flatMap_map] at h
    have e2 : l.flatMap (fun c => id [c]) = l := by simp
    rw [e2] at h
    exact (StrLaws.glued_eq_join _ _).trans h
  unfold fJoinC partsD
  rw [e]
  simp only [strsD_map]
  rw [if_pos (by rw [le, show (Str.ofString "").length = 0 from rfl]; omega), j]
theorem fi_words {w : List Nat} (hl : w.length ≤ 20) (h : ∀ c ∈ w, c ≤ 122) : Fine 200 0 20 (.str (tx w)) (.str (tx w)) := fi_str ⟨by
  unfold PyData.strOk
  rw [Array.all_eq_true_iff_forall_mem]
  intro c hc
  have := h c (by simpa [tx] using hc)
  exact decide_eq_true (by omega), by
  rw [tx_list, List.all_eq_true]
  intro c hc
  have := h c hc
  exact decide_eq_true (by omega), by
  show w.toArray.size ≤ 20
  simpa using hl⟩ (Nat.le_refl _)
theorem abc_len : (Str.ofString "abcdefghijklmnopqrstuvwxyz ").cps.toList.length = 27 := by decide +kernel
theorem abc_all : ((Str.ofString "abcdefghijklmnopqrstuvwxyz ").cps.toList.all fun c => decide (c ≤ 122)) = true := by decide +kernel
theorem abc_at {r : Int} (h0 : 0 ≤ r) (h1 : r < 27) : ∃ c, L2.atI (Str.ofString "abcdefghijklmnopqrstuvwxyz ").cps.toList r = some c ∧ c ≤ 122 := by
  obtain ⟨k, rfl⟩ : ∃ k : Nat, r = k := ⟨r.toNat, by omega⟩
  have hk : k < (Str.ofString "abcdefghijklmnopqrstuvwxyz ").cps.toList.length := by rw [abc_len]; omega
  exact ⟨_, L2.atI_nat (List.getElem?_eq_getElem hk), of_decide_eq_true (List.all_eq_true.mp abc_all _ (List.getElem_mem hk))⟩
theorem words {d : D} (P : Pot d) (S : D) {n : Nat} (hn : n ≤ 20) : ∃ (l : List Nat) (d' : D), lcK [16] ct_law_1 cc_law_1 ce_law_1 (Tk.intsFrom 0 n) [some (.dat S), some (.own d), none, none, none, none, none, none, none, none, none, none, none, none, none, none, none] =
    some (.ok (.fresh (.lst (l.map fun c => D.str (tx [c])))) [some (.dat S), some (.own d'), none, none, none, none, none, none, none, none, none, none, none, none, none, none, none]) ∧ l.length = n ∧ (∀ c ∈ l, c ≤ 122) ∧ Pot d' := by
  have zA : szOk (Str.ofString "abcdefghijklmnopqrstuvwxyz ").length = true := by decide +kernel
  obtain ⟨acc, en, h5, d3, l, rfl, hl, ll, rfl, p3⟩ := lc_run (vs := [16]) (g := ct_law_1) (t := cc_law_1) (f := ce_law_1)
    (fun i acc env => ∃ (d' : D) (l : List Nat), acc = l.map (fun c => D.str (tx [c])) ∧ (∀ c ∈ l, c ≤ 122) ∧ l.length = i ∧ env = [some (.dat S), some (.own d'), none, none, none, none, none, none, none, none, none, none, none, none, none, none, none] ∧ Pot d')
    (Tk.intsFrom 0 n) [some (.dat S), some (.own d), none, none, none, none, none, none, none, none, none, none, none, none, none, none, none] ⟨d, [], rfl, by simp, rfl, rfl, P⟩ (by
      rintro i dd acc env hd ⟨d', l, rfl, hl, ll, rfl, pd⟩
      obtain ⟨hi, rfl⟩ := ints_get hd
      obtain ⟨r, d4, e, r0, r26, p4⟩ := digit (m := 27) pd (by omega) (by decide +kernel)
      obtain ⟨c, ha, hc⟩ := abc_at r0 r26
      have et : (⟨#[c]⟩ : Str) = tx [c] := rfl
      refine ⟨[some (.dat S), some (.own d'), none, none, none, none, none, none, none, none, none, none, none, none, none, none, some (.dat (.int i))], true, _, by simp [ct_law_1, gNm], rfl, by simp [cc_law_1, tYesF]; rfl, (fun z => by cases z), fun _ => ⟨.str (tx [c]), [some (.dat S), some (.own d4), none, none, none, none, none, none, none, none, none, none, none, none, none, none, some (.dat (.int i))], ?_, d4, l ++ [c], by simp, ?_, by simp [ll], rfl, p4⟩⟩
      · rw [← et]
        unfold ce_law_1
        generalize Str.ofString "abcdefghijklmnopqrstuvwxyz " = abc at *
        simp! [e, zA, ha]
      · intro x hx
        rcases List.mem_append.mp hx with z | z
        · exact hl x z
        · rw [List.mem_singleton.mp z]
          exact hc) (by rw [ints_len]; omega) (by
      rintro acc env ⟨d', l, _, _, _, rfl, _⟩
      rfl)
  rw [ints_len] at ll
  exact ⟨l, d3, h5, ll, hl, p3⟩
def made (w s t n n1 : D) : List D := [.exv 0 [], .exv 1 [], .exv 2 [], .exv 3 [], .exv 4 [], .exv 5 [], .exv 6 [], .exv 7 [], .exv 8 [], .exv 9 [], .exv 10 [], .exv 11 [w], .exv 12 [s, n], .exv 13 [], .exv 14 [s], .exv 15 [w], .exv 16 [], .exv 17 [w], .exv 18 [w], .exv 19 [w], .exv 20 [t], .exv 21 [n1, n]]
theorem are_right (w s t n n1 : D) : P_L_are_right [.lst (made w s t n n1)] = some (.ok (.dat (.bl true))) := by kernel_rfl
end K18
namespace K18
open PySem Tk Fm
local macro_rules | `(tactic| simp! [$ls,*]) => `(tactic| simp [runP, runM, startE, startM, sSeq, seqK, sNil, sRet, sRetN, sExpr, sIf, sSet, setK, sAsg, sPar, parK, rsl, sAug, sFor, cTest, tAndF, tOrF, tNotF, tYesF, tChainF, chK, cAndV, cOrV, cNotV, cIfE, cBin, cUn, fin1, fin2, peek, cName, cC, cTup, cLst, aNil, aCons, cUse, use, bd, RV.out, RV.cell, cCall, callK, cCallM, callMK, cCallT, cCallK, pick, ownAt, own0, not0, retOf, gNm, gTp, gsCons, gsNil, gIx, iRg1, iRg2, iIt, iter1, cSl, oNone, oSome, fSl, fII, fII0, fAdd, fIAdd, fIx, fLen, fNeg, fAbs, fInt, fIsN, isNon, sPar3, parK3, iEn, gTpL, fIsB, sRaiseF, cXf, iZs, cChainV, chV, sRaise, sTryAs, leaveX, noX, outX, cIsE, cDct0, fAll, fAny, blsOf, blOf, fTuple, cMeth, fAppend, cBot, sBot, fFld, cMe, cMake, makeK, putO, sFldSet, fIsC, fEqO, okR, tyName, $ls,*])
theorem law_true : ∀ ns : List Int, ns.length ≤ 63 → (∀ z ∈ ns, Builtin.Int.intBits z ≤ 1048576) → P_law [.scr ns] = some (.ok (.dat (.bl true))) := by
  intro ns hl _
  obtain ⟨d, e0, P⟩ := pot (ns := ns) (k := 0) (by omega)
  have e0 : P_L_pot [.scr ns, .int 0] = some (.ok (.fresh d)) := e0
  obtain ⟨r1, d1, e1, a0, a1, p1⟩ := digit (m := 9) P (by omega) (by decide +kernel)
  obtain ⟨n, rfl⟩ : ∃ n : Nat, r1 = n := ⟨r1.toNat, by omega⟩
  obtain ⟨l, d2, e2, ll, lc, p2⟩ := words p1 (.scr ns) (n := n) (by omega)
  have j := joinW l (by omega)
  obtain ⟨r3, d3, e3, b0, b1, p3⟩ := digit (m := 1000) p2 (by omega) (by decide +kernel)
  obtain ⟨r4, d4, e4, c0, c1, p4⟩ := digit (m := 1000000000000) p3 (by omega) (by decide +kernel)
  have hpw : powOk 10 12 = true := powOk_lit (by decide) (by decide) (by decide)
  have hs : small62 (n : Int) = true := s62 (by omega)
  have tn : ((n : Int)).toNat = n := by omega
  have fW := fi_words (by omega) lc
  have fT : Fine 200 1 60 (.tup [.str "q", .int r4]) _ := fi_tup ((fs_cons (n := 1) (n' := 1) (fi_ltr (c := 113) (by decide) (Nat.le_refl _)) ((fs_cons (n := 0) (n' := 0) (fi_int (by omega)) fs_nil).more (Nat.le_refl _) (by omega))).more (Nat.zero_le _) (by omega))
  have fN : Fine 200 0 0 (.int r3) (.int r3) := fi_int (by omega)
  have fN1 : Fine 200 0 0 (.int (r3 + 1)) (.int (r3 + 1)) := fi_int (by omega)
  have fS := fi_lst (fs_cons (fW.more (k' := 1) (n' := 60) (by omega) (by omega)) (fs_cons fT (fs_cons (fN.more (k' := 1) (n' := 60) (by omega) (by omega)) (fs_nil (n := 0)))))
  have q1 := fW.same true
  have q2 := (fi_lst (fs_cons (fN.more (k' := 2) (Nat.zero_le _) (Nat.le_refl _)) (fs_cons fS (fs_cons fS (fs_nil (n := 0)))))).same true
  have q3 := (fi_lst (fs_cons fW (fs_cons fW (fs_cons fW (fs_nil (n := 0)))))).same true
  have q4 := (fi_lst (fs_cons fT (fs_cons (fN.more (k' := 1) (Nat.zero_le _) (Nat.le_refl _)) (fs_cons (fN1.more (k' := 1) (Nat.zero_le _) (Nat.le_refl _)) (fs_nil (n := 0)))))).same false
  have ar := are_right (.str (tx l)) (.lst [.str (tx l), .tup [.str "q", .int r4], .int r3]) (.tup [.str "q", .int r4]) (.int r3) (.int (r3 + 1))
  have mu : ∀ w : D, fMulS (.lst [w]) (.int 3) = some (.fresh (.lst [w, w, w])) := fun _ => rfl
  unfold made at ar
  have i1 : (1 : Nat) ≤ 1 := Nat.le_refl _
  clear fS fT fN fN1 fW lc
  generalize (l.map fun c => D.str (tx [c])) = LL at *
  generalize tx l = w at *
  have z : szOk 0 = true ∧ szOk 1 = true ∧ szOk 2 = true ∧ szOk 3 = true ∧ szOk 4 = true ∧ szOk 5 = true ∧ szOk 6 = true ∧ szOk 7 = true ∧ szOk 8 = true ∧ szOk 9 = true ∧ szOk 10 = true ∧ szOk 11 = true := ⟨rfl, rfl, rfl, rfl, rfl, rfl, rfl, rfl, rfl, rfl, rfl, rfl⟩
  obtain ⟨z0, z1, z2, z3, z4, z5, z6, z7, z8, z9, z10, z11⟩ := z
  have z22 : szOk 22 = true := rfl
  have run : ∃ e, g_law [some (.dat (.scr ns)), none, none, none, none, none, none, none, none, none, none, none, none, none, none, none, none] = some (.ok (.ret (.dat (.bl true))) e) := by
    refine ⟨?_, ?_⟩
    rotate_left
    · unfold g_law
      refine seq_ok (e2 := ?e1) ?h1 ?k1
      case h1 => simp! [e0] <;> rfl
      refine seq_ok (e2 := ?e2) ?h2 ?k2
      case h2 => simp! [cLc, e1, hs, tn, e2, unwipe, j] <;> rfl
      refine seq_ok (e2 := ?e3) ?h3 ?k3
      case h3 => simp! [e3, e4, hpw, z2] <;> rfl
      refine seq_ok (e2 := ?e4) ?h4 ?k4
      case h4 => simp! [z3] <;> rfl
      refine seq_ok (e2 := ?e5) ?h5 ?k5
      case h5 => simp! [fMk0, z6] <;> rfl
      refine seq_ok (e2 := ?e6) ?h6 ?k6
      case h6 => simp! [fMk0, z5, z11] <;> rfl
      refine seq_ok (e2 := ?e7) ?h7 ?k7
      case h7 => simp! [cMkV, z4] <;> rfl
      refine seq_ok (e2 := ?e8) ?h8 ?k8
      case h8 => simp! [cMkV] <;> rfl
      refine seq_ok (e2 := ?e9) ?h9 ?k9
      case h9 => simp! [cMkV] <;> rfl
      refine seq_ok (e2 := ?e10) ?h10 ?k10
      case h10 => simp! [fMk0, z11, z22] <;> rfl
      refine seq_ok (e2 := ?e11) ?h11 ?k11
      case h11 => simp! [ar] <;> rfl
      refine seq_ok (e2 := ?e12) ?h12 ?k12
      case h12 => simp! [fXv, mf_what, mf_number, mf_answers, mf_name, q1, q2, z3] <;> rfl
      refine seq_ok (e2 := ?e13) ?h13 ?k13
      case h13 => simp! [fXv, mf_letter, mf_name, q1, q3, mu, z1, z3] <;> rfl
      simp! [fXv, mf_ticket, mf_tickets, mf_lines, q4, z3] <;> rfl
  obtain ⟨e, run⟩ := run
  simp [P_law, runP, startE, run, retOf, not0]
end K18
namespace K18
open PySem PySem.Spec PyProof.Rows L2 Tk
theorem all_mk {P : Program} {w : World} {K : PySem.W.Frag} {h : Heap} {mg : Str → Option Value} {fa : Addr} (X : K.In h) (G : h.Ns mainGlobals mg) (hfa : mg "law" = some (.ref fa))
    {od_L_pot an_L_pot : Option Addr} {sl_L_pot : Array (Option Value)} {oc_L_pot kV_L_pot dc_L_pot pm_L_pot cd_L_pot ct_L_pot : Value} {f_L_pot : Addr}
    (a_L_pot : PySem.W.nsIn K mainGlobals "_law_pot" = some (some (.ref f_L_pot))) (l_L_pot : K.lookup f_L_pot = some ⟨oc_L_pot, od_L_pot, .func (PySem.W.fnOf "_law_pot" "_law_pot" (defArgs s_L_pot) (defBody s_L_pot) (defScope s_L_pot) .none kV_L_pot dc_L_pot pm_L_pot an_L_pot cd_L_pot ct_L_pot), sl_L_pot⟩) (c_L_pot : PySem.W.codeIn K cd_L_pot "_law_pot" = true) (k_L_pot : PySem.W.keepIn K (.ref f_L_pot) = true)
    {od_L_digit an_L_digit : Option Addr} {sl_L_digit : Array (Option Value)} {oc_L_digit kV_L_digit dc_L_digit pm_L_digit cd_L_digit ct_L_digit : Value} {f_L_digit : Addr}
    (a_L_digit : PySem.W.nsIn K mainGlobals "_law_digit" = some (some (.ref f_L_digit))) (l_L_digit : K.lookup f_L_digit = some ⟨oc_L_digit, od_L_digit, .func (PySem.W.fnOf "_law_digit" "_law_digit" (defArgs s_L_digit) (defBody s_L_digit) (defScope s_L_digit) .none kV_L_digit dc_L_digit pm_L_digit an_L_digit cd_L_digit ct_L_digit), sl_L_digit⟩) (c_L_digit : PySem.W.codeIn K cd_L_digit "_law_digit" = true) (k_L_digit : PySem.W.keepIn K (.ref f_L_digit) = true)
    {od_L_kinds an_L_kinds : Option Addr} {sl_L_kinds : Array (Option Value)} {oc_L_kinds kV_L_kinds dc_L_kinds pm_L_kinds cd_L_kinds ct_L_kinds : Value} {f_L_kinds : Addr}
    (a_L_kinds : PySem.W.nsIn K mainGlobals "_law_kinds" = some (some (.ref f_L_kinds))) (l_L_kinds : K.lookup f_L_kinds = some ⟨oc_L_kinds, od_L_kinds, .func (PySem.W.fnOf "_law_kinds" "_law_kinds" (defArgs s_L_kinds) (defBody s_L_kinds) (defScope s_L_kinds) .none kV_L_kinds dc_L_kinds pm_L_kinds an_L_kinds cd_L_kinds ct_L_kinds), sl_L_kinds⟩) (c_L_kinds : PySem.W.codeIn K cd_L_kinds "_law_kinds" = true) (k_L_kinds : PySem.W.keepIn K (.ref f_L_kinds) = true)
    {od_L_bases an_L_bases : Option Addr} {sl_L_bases : Array (Option Value)} {oc_L_bases kV_L_bases dc_L_bases pm_L_bases cd_L_bases ct_L_bases : Value} {f_L_bases : Addr}
    (a_L_bases : PySem.W.nsIn K mainGlobals "_law_bases" = some (some (.ref f_L_bases))) (l_L_bases : K.lookup f_L_bases = some ⟨oc_L_bases, od_L_bases, .func (PySem.W.fnOf "_law_bases" "_law_bases" (defArgs s_L_bases) (defBody s_L_bases) (defScope s_L_bases) .none kV_L_bases dc_L_bases pm_L_bases an_L_bases cd_L_bases ct_L_bases), sl_L_bases⟩) (c_L_bases : PySem.W.codeIn K cd_L_bases "_law_bases" = true) (k_L_bases : PySem.W.keepIn K (.ref f_L_bases) = true)
    {od_L_are_right an_L_are_right : Option Addr} {sl_L_are_right : Array (Option Value)} {oc_L_are_right kV_L_are_right dc_L_are_right pm_L_are_right cd_L_are_right ct_L_are_right : Value} {f_L_are_right : Addr}
    (a_L_are_right : PySem.W.nsIn K mainGlobals "_law_are_right" = some (some (.ref f_L_are_right))) (l_L_are_right : K.lookup f_L_are_right = some ⟨oc_L_are_right, od_L_are_right, .func (PySem.W.fnOf "_law_are_right" "_law_are_right" (defArgs s_L_are_right) (defBody s_L_are_right) (defScope s_L_are_right) .none kV_L_are_right dc_L_are_right pm_L_are_right an_L_are_right cd_L_are_right ct_L_are_right), sl_L_are_right⟩) (c_L_are_right : PySem.W.codeIn K cd_L_are_right "_law_are_right" = true) (k_L_are_right : PySem.W.keepIn K (.ref f_L_are_right) = true)
    {od_law an_law : Option Addr} {sl_law : Array (Option Value)} {oc_law kV_law dc_law pm_law cd_law ct_law : Value} {f_law : Addr}
    (a_law : PySem.W.nsIn K mainGlobals "law" = some (some (.ref f_law))) (l_law : K.lookup f_law = some ⟨oc_law, od_law, .func (PySem.W.fnOf "law" "law" (defArgs s_law) (defBody s_law) (defScope s_law) .none kV_law dc_law pm_law an_law cd_law ct_law), sl_law⟩) (c_law : PySem.W.codeIn K cd_law "law" = true) (k_law : PySem.W.keepIn K (.ref f_law) = true)
    {cl_NoNumber : Addr} (ag_NoNumber : PySem.W.nsIn K mainGlobals "NoNumber" = some (some (.ref cl_NoNumber)))
    {cl_NoPlace : Addr} (ag_NoPlace : PySem.W.nsIn K mainGlobals "NoPlace" = some (some (.ref cl_NoPlace)))
    {cl_NoOrder : Addr} (ag_NoOrder : PySem.W.nsIn K mainGlobals "NoOrder" = some (some (.ref cl_NoOrder)))
    {cl_NoPattern : Addr} (ag_NoPattern : PySem.W.nsIn K mainGlobals "NoPattern" = some (some (.ref cl_NoPattern)))
    {cl_NoLetter : Addr} (ag_NoLetter : PySem.W.nsIn K mainGlobals "NoLetter" = some (some (.ref cl_NoLetter)))
    {cl_NoTicket : Addr} (ag_NoTicket : PySem.W.nsIn K mainGlobals "NoTicket" = some (some (.ref cl_NoTicket)))
    {cl_NoSize : Addr} (ag_NoSize : PySem.W.nsIn K mainGlobals "NoSize" = some (some (.ref cl_NoSize)))
    {cl_NoEnd : Addr} (ag_NoEnd : PySem.W.nsIn K mainGlobals "NoEnd" = some (some (.ref cl_NoEnd)))
    {cl_NoDeed : Addr} (ag_NoDeed : PySem.W.nsIn K mainGlobals "NoDeed" = some (some (.ref cl_NoDeed)))
    {cl_NoText : Addr} (ag_NoText : PySem.W.nsIn K mainGlobals "NoText" = some (some (.ref cl_NoText)))
    {cl_NoRow : Addr} (ag_NoRow : PySem.W.nsIn K mainGlobals "NoRow" = some (some (.ref cl_NoRow)))
    {cl_NoForm : Addr} (ag_NoForm : PySem.W.nsIn K mainGlobals "NoForm" = some (some (.ref cl_NoForm)))
    {cl_Halted : Addr} (ag_Halted : PySem.W.nsIn K mainGlobals "Halted" = some (some (.ref cl_Halted)))
    {cl_NoBack : Addr} (ag_NoBack : PySem.W.nsIn K mainGlobals "NoBack" = some (some (.ref cl_NoBack)))
    {cl_NoSuch : Addr} (ag_NoSuch : PySem.W.nsIn K mainGlobals "NoSuch" = some (some (.ref cl_NoSuch)))
    {cl_NoStream : Addr} (ag_NoStream : PySem.W.nsIn K mainGlobals "NoStream" = some (some (.ref cl_NoStream)))
    {cl_Busy : Addr} (ag_Busy : PySem.W.nsIn K mainGlobals "Busy" = some (some (.ref cl_Busy)))
    {cl_Taken : Addr} (ag_Taken : PySem.W.nsIn K mainGlobals "Taken" = some (some (.ref cl_Taken)))
    {cl_Same : Addr} (ag_Same : PySem.W.nsIn K mainGlobals "Same" = some (some (.ref cl_Same)))
    {cl_Spent : Addr} (ag_Spent : PySem.W.nsIn K mainGlobals "Spent" = some (some (.ref cl_Spent)))
    {cl_Twice : Addr} (ag_Twice : PySem.W.nsIn K mainGlobals "Twice" = some (some (.ref cl_Twice)))
    {cl_TooMany : Addr} (ag_TooMany : PySem.W.nsIn K mainGlobals "TooMany" = some (some (.ref cl_TooMany)))
    {cl_RowsError : Addr} (ag_RowsError : PySem.W.nsIn K mainGlobals "RowsError" = some (some (.ref cl_RowsError)))
    {cl_Absent : Addr} (ag_Absent : PySem.W.nsIn K mainGlobals "Absent" = some (some (.ref cl_Absent)))
    {cl_Barred : Addr} (ag_Barred : PySem.W.nsIn K mainGlobals "Barred" = some (some (.ref cl_Barred)))
    {fi_NoForm : Addr} (iC_NoForm : PySem.W.findIn K (.ref cl_NoForm) "__init__" = some (some (.ref fi_NoForm))) (tI_NoForm : PySem.W.typeIn K (.ref fi_NoForm) = some (.type "function"))
    {odi_NoForm ani_NoForm : Option Addr} {sli_NoForm : Array (Option Value)} {oci_NoForm kVi_NoForm dci_NoForm pmi_NoForm cdi_NoForm cti_NoForm : Value} (li_NoForm : K.lookup fi_NoForm = some ⟨oci_NoForm, odi_NoForm, .func (PySem.W.fnOf "__init__" "NoForm.__init__" (defArgs si_NoForm) (defBody si_NoForm) (defScope si_NoForm) .none kVi_NoForm dci_NoForm pmi_NoForm ani_NoForm cdi_NoForm cti_NoForm), sli_NoForm⟩) (ci_NoForm : PySem.W.codeIn K cdi_NoForm "NoForm.__init__" = true)
    {fi_Halted : Addr} (iC_Halted : PySem.W.findIn K (.ref cl_Halted) "__init__" = some (some (.ref fi_Halted))) (tI_Halted : PySem.W.typeIn K (.ref fi_Halted) = some (.type "function"))
    {odi_Halted ani_Halted : Option Addr} {sli_Halted : Array (Option Value)} {oci_Halted kVi_Halted dci_Halted pmi_Halted cdi_Halted cti_Halted : Value} (li_Halted : K.lookup fi_Halted = some ⟨oci_Halted, odi_Halted, .func (PySem.W.fnOf "__init__" "Halted.__init__" (defArgs si_Halted) (defBody si_Halted) (defScope si_Halted) .none kVi_Halted dci_Halted pmi_Halted ani_Halted cdi_Halted cti_Halted), sli_Halted⟩) (ci_Halted : PySem.W.codeIn K cdi_Halted "Halted.__init__" = true)
    {fi_NoSuch : Addr} (iC_NoSuch : PySem.W.findIn K (.ref cl_NoSuch) "__init__" = some (some (.ref fi_NoSuch))) (tI_NoSuch : PySem.W.typeIn K (.ref fi_NoSuch) = some (.type "function"))
    {odi_NoSuch ani_NoSuch : Option Addr} {sli_NoSuch : Array (Option Value)} {oci_NoSuch kVi_NoSuch dci_NoSuch pmi_NoSuch cdi_NoSuch cti_NoSuch : Value} (li_NoSuch : K.lookup fi_NoSuch = some ⟨oci_NoSuch, odi_NoSuch, .func (PySem.W.fnOf "__init__" "NoSuch.__init__" (defArgs si_NoSuch) (defBody si_NoSuch) (defScope si_NoSuch) .none kVi_NoSuch dci_NoSuch pmi_NoSuch ani_NoSuch cdi_NoSuch cti_NoSuch), sli_NoSuch⟩) (ci_NoSuch : PySem.W.codeIn K cdi_NoSuch "NoSuch.__init__" = true)
    {fi_NoStream : Addr} (iC_NoStream : PySem.W.findIn K (.ref cl_NoStream) "__init__" = some (some (.ref fi_NoStream))) (tI_NoStream : PySem.W.typeIn K (.ref fi_NoStream) = some (.type "function"))
    {odi_NoStream ani_NoStream : Option Addr} {sli_NoStream : Array (Option Value)} {oci_NoStream kVi_NoStream dci_NoStream pmi_NoStream cdi_NoStream cti_NoStream : Value} (li_NoStream : K.lookup fi_NoStream = some ⟨oci_NoStream, odi_NoStream, .func (PySem.W.fnOf "__init__" "NoStream.__init__" (defArgs si_NoStream) (defBody si_NoStream) (defScope si_NoStream) .none kVi_NoStream dci_NoStream pmi_NoStream ani_NoStream cdi_NoStream cti_NoStream), sli_NoStream⟩) (ci_NoStream : PySem.W.codeIn K cdi_NoStream "NoStream.__init__" = true)
    {fi_Taken : Addr} (iC_Taken : PySem.W.findIn K (.ref cl_Taken) "__init__" = some (some (.ref fi_Taken))) (tI_Taken : PySem.W.typeIn K (.ref fi_Taken) = some (.type "function"))
    {odi_Taken ani_Taken : Option Addr} {sli_Taken : Array (Option Value)} {oci_Taken kVi_Taken dci_Taken pmi_Taken cdi_Taken cti_Taken : Value} (li_Taken : K.lookup fi_Taken = some ⟨oci_Taken, odi_Taken, .func (PySem.W.fnOf "__init__" "Taken.__init__" (defArgs si_Taken) (defBody si_Taken) (defScope si_Taken) .none kVi_Taken dci_Taken pmi_Taken ani_Taken cdi_Taken cti_Taken), sli_Taken⟩) (ci_Taken : PySem.W.codeIn K cdi_Taken "Taken.__init__" = true)
    {fi_Same : Addr} (iC_Same : PySem.W.findIn K (.ref cl_Same) "__init__" = some (some (.ref fi_Same))) (tI_Same : PySem.W.typeIn K (.ref fi_Same) = some (.type "function"))
    {odi_Same ani_Same : Option Addr} {sli_Same : Array (Option Value)} {oci_Same kVi_Same dci_Same pmi_Same cdi_Same cti_Same : Value} (li_Same : K.lookup fi_Same = some ⟨oci_Same, odi_Same, .func (PySem.W.fnOf "__init__" "Same.__init__" (defArgs si_Same) (defBody si_Same) (defScope si_Same) .none kVi_Same dci_Same pmi_Same ani_Same cdi_Same cti_Same), sli_Same⟩) (ci_Same : PySem.W.codeIn K cdi_Same "Same.__init__" = true)
    {fi_Spent : Addr} (iC_Spent : PySem.W.findIn K (.ref cl_Spent) "__init__" = some (some (.ref fi_Spent))) (tI_Spent : PySem.W.typeIn K (.ref fi_Spent) = some (.type "function"))
    {odi_Spent ani_Spent : Option Addr} {sli_Spent : Array (Option Value)} {oci_Spent kVi_Spent dci_Spent pmi_Spent cdi_Spent cti_Spent : Value} (li_Spent : K.lookup fi_Spent = some ⟨oci_Spent, odi_Spent, .func (PySem.W.fnOf "__init__" "Spent.__init__" (defArgs si_Spent) (defBody si_Spent) (defScope si_Spent) .none kVi_Spent dci_Spent pmi_Spent ani_Spent cdi_Spent cti_Spent), sli_Spent⟩) (ci_Spent : PySem.W.codeIn K cdi_Spent "Spent.__init__" = true)
    {fi_Twice : Addr} (iC_Twice : PySem.W.findIn K (.ref cl_Twice) "__init__" = some (some (.ref fi_Twice))) (tI_Twice : PySem.W.typeIn K (.ref fi_Twice) = some (.type "function"))
    {odi_Twice ani_Twice : Option Addr} {sli_Twice : Array (Option Value)} {oci_Twice kVi_Twice dci_Twice pmi_Twice cdi_Twice cti_Twice : Value} (li_Twice : K.lookup fi_Twice = some ⟨oci_Twice, odi_Twice, .func (PySem.W.fnOf "__init__" "Twice.__init__" (defArgs si_Twice) (defBody si_Twice) (defScope si_Twice) .none kVi_Twice dci_Twice pmi_Twice ani_Twice cdi_Twice cti_Twice), sli_Twice⟩) (ci_Twice : PySem.W.codeIn K cdi_Twice "Twice.__init__" = true)
    {fi_TooMany : Addr} (iC_TooMany : PySem.W.findIn K (.ref cl_TooMany) "__init__" = some (some (.ref fi_TooMany))) (tI_TooMany : PySem.W.typeIn K (.ref fi_TooMany) = some (.type "function"))
    {odi_TooMany ani_TooMany : Option Addr} {sli_TooMany : Array (Option Value)} {oci_TooMany kVi_TooMany dci_TooMany pmi_TooMany cdi_TooMany cti_TooMany : Value} (li_TooMany : K.lookup fi_TooMany = some ⟨oci_TooMany, odi_TooMany, .func (PySem.W.fnOf "__init__" "TooMany.__init__" (defArgs si_TooMany) (defBody si_TooMany) (defScope si_TooMany) .none kVi_TooMany dci_TooMany pmi_TooMany ani_TooMany cdi_TooMany cti_TooMany), sli_TooMany⟩) (ci_TooMany : PySem.W.codeIn K cdi_TooMany "TooMany.__init__" = true)
    (af_k_NoNumber : PySem.W.keepIn K (.ref cl_NoNumber) = true)
    (af_x_NoNumber : PySem.W.excIn K cl_NoNumber [.type "ValueError", .type "Exception", .type "BaseException", .type "object"] "ValueError.__new__" = true)
    (af_b_NoNumber : PySem.W.subIn K (.ref cl_NoNumber) (.type "BaseException") = some true)
    (af_t_NoNumber : PySem.W.typeIn K (.ref cl_NoNumber) = some (.type "type"))
    (af_eg_NoNumber : PySem.W.findIn K (.ref cl_NoNumber) "__getattribute__" = some (some (.builtin "BaseException.__getattribute__")))
    (af_ek_NoNumber : PySem.W.findIn K (.ref cl_NoNumber) "__getattr__" = some none)
    (af_ed_NoNumber : PySem.W.hasDictIn K cl_NoNumber = true)
    (af_ea_NoNumber : PySem.W.findIn K (.ref cl_NoNumber) "__class__" = some (some (.builtin "object.__class__")))
    (af_em_NoNumber : PySem.W.mroIn K cl_NoNumber (.type "object") = some true)
    (af_i_NoNumber : PySem.W.isClsIn K cl_NoNumber = true)
    (af_s_NoNumber_NoNumber : PySem.W.subIn K (.ref cl_NoNumber) (.ref cl_NoNumber) = some true)
    (af_i_NoPlace : PySem.W.isClsIn K cl_NoPlace = true)
    (af_t_NoPlace : PySem.W.typeIn K (.ref cl_NoPlace) = some (.type "type"))
    (af_s_NoNumber_NoPlace : PySem.W.subIn K (.ref cl_NoNumber) (.ref cl_NoPlace) = some false)
    (af_i_NoOrder : PySem.W.isClsIn K cl_NoOrder = true)
    (af_t_NoOrder : PySem.W.typeIn K (.ref cl_NoOrder) = some (.type "type"))
    (af_s_NoNumber_NoOrder : PySem.W.subIn K (.ref cl_NoNumber) (.ref cl_NoOrder) = some false)
    (af_i_NoPattern : PySem.W.isClsIn K cl_NoPattern = true)
    (af_t_NoPattern : PySem.W.typeIn K (.ref cl_NoPattern) = some (.type "type"))
    (af_s_NoNumber_NoPattern : PySem.W.subIn K (.ref cl_NoNumber) (.ref cl_NoPattern) = some false)
    (af_i_NoLetter : PySem.W.isClsIn K cl_NoLetter = true)
    (af_t_NoLetter : PySem.W.typeIn K (.ref cl_NoLetter) = some (.type "type"))
    (af_s_NoNumber_NoLetter : PySem.W.subIn K (.ref cl_NoNumber) (.ref cl_NoLetter) = some false)
    (af_i_NoTicket : PySem.W.isClsIn K cl_NoTicket = true)
    (af_t_NoTicket : PySem.W.typeIn K (.ref cl_NoTicket) = some (.type "type"))
    (af_s_NoNumber_NoTicket : PySem.W.subIn K (.ref cl_NoNumber) (.ref cl_NoTicket) = some false)
    (af_i_NoSize : PySem.W.isClsIn K cl_NoSize = true)
    (af_t_NoSize : PySem.W.typeIn K (.ref cl_NoSize) = some (.type "type"))
    (af_s_NoNumber_NoSize : PySem.W.subIn K (.ref cl_NoNumber) (.ref cl_NoSize) = some false)
    (af_i_NoEnd : PySem.W.isClsIn K cl_NoEnd = true)
    (af_t_NoEnd : PySem.W.typeIn K (.ref cl_NoEnd) = some (.type "type"))
    (af_s_NoNumber_NoEnd : PySem.W.subIn K (.ref cl_NoNumber) (.ref cl_NoEnd) = some false)
    (af_i_NoDeed : PySem.W.isClsIn K cl_NoDeed = true)
    (af_t_NoDeed : PySem.W.typeIn K (.ref cl_NoDeed) = some (.type "type"))
    (af_s_NoNumber_NoDeed : PySem.W.subIn K (.ref cl_NoNumber) (.ref cl_NoDeed) = some false)
    (af_i_NoText : PySem.W.isClsIn K cl_NoText = true)
    (af_t_NoText : PySem.W.typeIn K (.ref cl_NoText) = some (.type "type"))
    (af_s_NoNumber_NoText : PySem.W.subIn K (.ref cl_NoNumber) (.ref cl_NoText) = some false)
    (af_i_NoRow : PySem.W.isClsIn K cl_NoRow = true)
    (af_t_NoRow : PySem.W.typeIn K (.ref cl_NoRow) = some (.type "type"))
    (af_s_NoNumber_NoRow : PySem.W.subIn K (.ref cl_NoNumber) (.ref cl_NoRow) = some false)
    (af_i_NoForm : PySem.W.isClsIn K cl_NoForm = true)
    (af_t_NoForm : PySem.W.typeIn K (.ref cl_NoForm) = some (.type "type"))
    (af_s_NoNumber_NoForm : PySem.W.subIn K (.ref cl_NoNumber) (.ref cl_NoForm) = some false)
    (af_i_Halted : PySem.W.isClsIn K cl_Halted = true)
    (af_t_Halted : PySem.W.typeIn K (.ref cl_Halted) = some (.type "type"))
    (af_s_NoNumber_Halted : PySem.W.subIn K (.ref cl_NoNumber) (.ref cl_Halted) = some false)
    (af_i_NoBack : PySem.W.isClsIn K cl_NoBack = true)
    (af_t_NoBack : PySem.W.typeIn K (.ref cl_NoBack) = some (.type "type"))
    (af_s_NoNumber_NoBack : PySem.W.subIn K (.ref cl_NoNumber) (.ref cl_NoBack) = some false)
    (af_i_NoSuch : PySem.W.isClsIn K cl_NoSuch = true)
    (af_t_NoSuch : PySem.W.typeIn K (.ref cl_NoSuch) = some (.type "type"))
    (af_s_NoNumber_NoSuch : PySem.W.subIn K (.ref cl_NoNumber) (.ref cl_NoSuch) = some false)
    (af_i_NoStream : PySem.W.isClsIn K cl_NoStream = true)
    (af_t_NoStream : PySem.W.typeIn K (.ref cl_NoStream) = some (.type "type"))
    (af_s_NoNumber_NoStream : PySem.W.subIn K (.ref cl_NoNumber) (.ref cl_NoStream) = some false)
    (af_i_Busy : PySem.W.isClsIn K cl_Busy = true)
    (af_t_Busy : PySem.W.typeIn K (.ref cl_Busy) = some (.type "type"))
    (af_s_NoNumber_Busy : PySem.W.subIn K (.ref cl_NoNumber) (.ref cl_Busy) = some false)
    (af_i_Taken : PySem.W.isClsIn K cl_Taken = true)
    (af_t_Taken : PySem.W.typeIn K (.ref cl_Taken) = some (.type "type"))
    (af_s_NoNumber_Taken : PySem.W.subIn K (.ref cl_NoNumber) (.ref cl_Taken) = some false)
    (af_i_Same : PySem.W.isClsIn K cl_Same = true)
    (af_t_Same : PySem.W.typeIn K (.ref cl_Same) = some (.type "type"))
    (af_s_NoNumber_Same : PySem.W.subIn K (.ref cl_NoNumber) (.ref cl_Same) = some false)
    (af_i_Spent : PySem.W.isClsIn K cl_Spent = true)
    (af_t_Spent : PySem.W.typeIn K (.ref cl_Spent) = some (.type "type"))
    (af_s_NoNumber_Spent : PySem.W.subIn K (.ref cl_NoNumber) (.ref cl_Spent) = some false)
    (af_i_Twice : PySem.W.isClsIn K cl_Twice = true)
    (af_t_Twice : PySem.W.typeIn K (.ref cl_Twice) = some (.type "type"))
    (af_s_NoNumber_Twice : PySem.W.subIn K (.ref cl_NoNumber) (.ref cl_Twice) = some false)
    (af_i_TooMany : PySem.W.isClsIn K cl_TooMany = true)
    (af_t_TooMany : PySem.W.typeIn K (.ref cl_TooMany) = some (.type "type"))
    (af_s_NoNumber_TooMany : PySem.W.subIn K (.ref cl_NoNumber) (.ref cl_TooMany) = some false)
    (af_i_RowsError : PySem.W.isClsIn K cl_RowsError = true)
    (af_t_RowsError : PySem.W.typeIn K (.ref cl_RowsError) = some (.type "type"))
    (af_s_NoNumber_RowsError : PySem.W.subIn K (.ref cl_NoNumber) (.ref cl_RowsError) = some true)
    (af_i_Absent : PySem.W.isClsIn K cl_Absent = true)
    (af_t_Absent : PySem.W.typeIn K (.ref cl_Absent) = some (.type "type"))
    (af_s_NoNumber_Absent : PySem.W.subIn K (.ref cl_NoNumber) (.ref cl_Absent) = some false)
    (af_i_Barred : PySem.W.isClsIn K cl_Barred = true)
    (af_t_Barred : PySem.W.typeIn K (.ref cl_Barred) = some (.type "type"))
    (af_s_NoNumber_Barred : PySem.W.subIn K (.ref cl_NoNumber) (.ref cl_Barred) = some false)
    (af_s_NoNumber_ValueError : PySem.W.subIn K (.ref cl_NoNumber) (.type "ValueError") = some true)
    (af_s_NoNumber_LookupError : PySem.W.subIn K (.ref cl_NoNumber) (.type "LookupError") = some false)
    (af_s_NoNumber_RuntimeError : PySem.W.subIn K (.ref cl_NoNumber) (.type "RuntimeError") = some false)
    (af_s_NoNumber_ArithmeticError : PySem.W.subIn K (.ref cl_NoNumber) (.type "ArithmeticError") = some false)
    (af_k_NoPlace : PySem.W.keepIn K (.ref cl_NoPlace) = true)
    (af_x_NoPlace : PySem.W.excIn K cl_NoPlace [.type "ValueError", .type "Exception", .type "BaseException", .type "object"] "ValueError.__new__" = true)
    (af_b_NoPlace : PySem.W.subIn K (.ref cl_NoPlace) (.type "BaseException") = some true)
    (af_eg_NoPlace : PySem.W.findIn K (.ref cl_NoPlace) "__getattribute__" = some (some (.builtin "BaseException.__getattribute__")))
    (af_ek_NoPlace : PySem.W.findIn K (.ref cl_NoPlace) "__getattr__" = some none)
    (af_ed_NoPlace : PySem.W.hasDictIn K cl_NoPlace = true)
    (af_ea_NoPlace : PySem.W.findIn K (.ref cl_NoPlace) "__class__" = some (some (.builtin "object.__class__")))
    (af_em_NoPlace : PySem.W.mroIn K cl_NoPlace (.type "object") = some true)
    (af_s_NoPlace_NoNumber : PySem.W.subIn K (.ref cl_NoPlace) (.ref cl_NoNumber) = some false)
    (af_s_NoPlace_NoPlace : PySem.W.subIn K (.ref cl_NoPlace) (.ref cl_NoPlace) = some true)
    (af_s_NoPlace_NoOrder : PySem.W.subIn K (.ref cl_NoPlace) (.ref cl_NoOrder) = some false)
    (af_s_NoPlace_NoPattern : PySem.W.subIn K (.ref cl_NoPlace) (.ref cl_NoPattern) = some false)
    (af_s_NoPlace_NoLetter : PySem.W.subIn K (.ref cl_NoPlace) (.ref cl_NoLetter) = some false)
    (af_s_NoPlace_NoTicket : PySem.W.subIn K (.ref cl_NoPlace) (.ref cl_NoTicket) = some false)
    (af_s_NoPlace_NoSize : PySem.W.subIn K (.ref cl_NoPlace) (.ref cl_NoSize) = some false)
    (af_s_NoPlace_NoEnd : PySem.W.subIn K (.ref cl_NoPlace) (.ref cl_NoEnd) = some false)
    (af_s_NoPlace_NoDeed : PySem.W.subIn K (.ref cl_NoPlace) (.ref cl_NoDeed) = some false)
    (af_s_NoPlace_NoText : PySem.W.subIn K (.ref cl_NoPlace) (.ref cl_NoText) = some false)
    (af_s_NoPlace_NoRow : PySem.W.subIn K (.ref cl_NoPlace) (.ref cl_NoRow) = some false)
    (af_s_NoPlace_NoForm : PySem.W.subIn K (.ref cl_NoPlace) (.ref cl_NoForm) = some false)
    (af_s_NoPlace_Halted : PySem.W.subIn K (.ref cl_NoPlace) (.ref cl_Halted) = some false)
    (af_s_NoPlace_NoBack : PySem.W.subIn K (.ref cl_NoPlace) (.ref cl_NoBack) = some false)
    (af_s_NoPlace_NoSuch : PySem.W.subIn K (.ref cl_NoPlace) (.ref cl_NoSuch) = some false)
    (af_s_NoPlace_NoStream : PySem.W.subIn K (.ref cl_NoPlace) (.ref cl_NoStream) = some false)
    (af_s_NoPlace_Busy : PySem.W.subIn K (.ref cl_NoPlace) (.ref cl_Busy) = some false)
    (af_s_NoPlace_Taken : PySem.W.subIn K (.ref cl_NoPlace) (.ref cl_Taken) = some false)
    (af_s_NoPlace_Same : PySem.W.subIn K (.ref cl_NoPlace) (.ref cl_Same) = some false)
    (af_s_NoPlace_Spent : PySem.W.subIn K (.ref cl_NoPlace) (.ref cl_Spent) = some false)
    (af_s_NoPlace_Twice : PySem.W.subIn K (.ref cl_NoPlace) (.ref cl_Twice) = some false)
    (af_s_NoPlace_TooMany : PySem.W.subIn K (.ref cl_NoPlace) (.ref cl_TooMany) = some false)
    (af_s_NoPlace_RowsError : PySem.W.subIn K (.ref cl_NoPlace) (.ref cl_RowsError) = some true)
    (af_s_NoPlace_Absent : PySem.W.subIn K (.ref cl_NoPlace) (.ref cl_Absent) = some false)
    (af_s_NoPlace_Barred : PySem.W.subIn K (.ref cl_NoPlace) (.ref cl_Barred) = some false)
    (af_s_NoPlace_ValueError : PySem.W.subIn K (.ref cl_NoPlace) (.type "ValueError") = some true)
    (af_s_NoPlace_LookupError : PySem.W.subIn K (.ref cl_NoPlace) (.type "LookupError") = some false)
    (af_s_NoPlace_RuntimeError : PySem.W.subIn K (.ref cl_NoPlace) (.type "RuntimeError") = some false)
    (af_s_NoPlace_ArithmeticError : PySem.W.subIn K (.ref cl_NoPlace) (.type "ArithmeticError") = some false)
    (af_k_NoOrder : PySem.W.keepIn K (.ref cl_NoOrder) = true)
    (af_x_NoOrder : PySem.W.excIn K cl_NoOrder [.type "ValueError", .type "Exception", .type "BaseException", .type "object"] "ValueError.__new__" = true)
    (af_b_NoOrder : PySem.W.subIn K (.ref cl_NoOrder) (.type "BaseException") = some true)
    (af_eg_NoOrder : PySem.W.findIn K (.ref cl_NoOrder) "__getattribute__" = some (some (.builtin "BaseException.__getattribute__")))
    (af_ek_NoOrder : PySem.W.findIn K (.ref cl_NoOrder) "__getattr__" = some none)
    (af_ed_NoOrder : PySem.W.hasDictIn K cl_NoOrder = true)
    (af_ea_NoOrder : PySem.W.findIn K (.ref cl_NoOrder) "__class__" = some (some (.builtin "object.__class__")))
    (af_em_NoOrder : PySem.W.mroIn K cl_NoOrder (.type "object") = some true)
    (af_s_NoOrder_NoNumber : PySem.W.subIn K (.ref cl_NoOrder) (.ref cl_NoNumber) = some false)
    (af_s_NoOrder_NoOrder : PySem.W.subIn K (.ref cl_NoOrder) (.ref cl_NoOrder) = some true)
    (af_s_NoOrder_NoPlace : PySem.W.subIn K (.ref cl_NoOrder) (.ref cl_NoPlace) = some false)
    (af_s_NoOrder_NoPattern : PySem.W.subIn K (.ref cl_NoOrder) (.ref cl_NoPattern) = some false)
    (af_s_NoOrder_NoLetter : PySem.W.subIn K (.ref cl_NoOrder) (.ref cl_NoLetter) = some false)
    (af_s_NoOrder_NoTicket : PySem.W.subIn K (.ref cl_NoOrder) (.ref cl_NoTicket) = some false)
    (af_s_NoOrder_NoSize : PySem.W.subIn K (.ref cl_NoOrder) (.ref cl_NoSize) = some false)
    (af_s_NoOrder_NoEnd : PySem.W.subIn K (.ref cl_NoOrder) (.ref cl_NoEnd) = some false)
    (af_s_NoOrder_NoDeed : PySem.W.subIn K (.ref cl_NoOrder) (.ref cl_NoDeed) = some false)
    (af_s_NoOrder_NoText : PySem.W.subIn K (.ref cl_NoOrder) (.ref cl_NoText) = some false)
    (af_s_NoOrder_NoRow : PySem.W.subIn K (.ref cl_NoOrder) (.ref cl_NoRow) = some false)
    (af_s_NoOrder_NoForm : PySem.W.subIn K (.ref cl_NoOrder) (.ref cl_NoForm) = some false)
    (af_s_NoOrder_Halted : PySem.W.subIn K (.ref cl_NoOrder) (.ref cl_Halted) = some false)
    (af_s_NoOrder_NoBack : PySem.W.subIn K (.ref cl_NoOrder) (.ref cl_NoBack) = some false)
    (af_s_NoOrder_NoSuch : PySem.W.subIn K (.ref cl_NoOrder) (.ref cl_NoSuch) = some false)
    (af_s_NoOrder_NoStream : PySem.W.subIn K (.ref cl_NoOrder) (.ref cl_NoStream) = some false)
    (af_s_NoOrder_Busy : PySem.W.subIn K (.ref cl_NoOrder) (.ref cl_Busy) = some false)
    (af_s_NoOrder_Taken : PySem.W.subIn K (.ref cl_NoOrder) (.ref cl_Taken) = some false)
    (af_s_NoOrder_Same : PySem.W.subIn K (.ref cl_NoOrder) (.ref cl_Same) = some false)
    (af_s_NoOrder_Spent : PySem.W.subIn K (.ref cl_NoOrder) (.ref cl_Spent) = some false)
    (af_s_NoOrder_Twice : PySem.W.subIn K (.ref cl_NoOrder) (.ref cl_Twice) = some false)
    (af_s_NoOrder_TooMany : PySem.W.subIn K (.ref cl_NoOrder) (.ref cl_TooMany) = some false)
    (af_s_NoOrder_RowsError : PySem.W.subIn K (.ref cl_NoOrder) (.ref cl_RowsError) = some true)
    (af_s_NoOrder_Absent : PySem.W.subIn K (.ref cl_NoOrder) (.ref cl_Absent) = some false)
    (af_s_NoOrder_Barred : PySem.W.subIn K (.ref cl_NoOrder) (.ref cl_Barred) = some false)
    (af_s_NoOrder_ValueError : PySem.W.subIn K (.ref cl_NoOrder) (.type "ValueError") = some true)
    (af_s_NoOrder_LookupError : PySem.W.subIn K (.ref cl_NoOrder) (.type "LookupError") = some false)
    (af_s_NoOrder_RuntimeError : PySem.W.subIn K (.ref cl_NoOrder) (.type "RuntimeError") = some false)
    (af_s_NoOrder_ArithmeticError : PySem.W.subIn K (.ref cl_NoOrder) (.type "ArithmeticError") = some false)
    (af_k_NoPattern : PySem.W.keepIn K (.ref cl_NoPattern) = true)
    (af_x_NoPattern : PySem.W.excIn K cl_NoPattern [.type "ValueError", .type "Exception", .type "BaseException", .type "object"] "ValueError.__new__" = true)
    (af_b_NoPattern : PySem.W.subIn K (.ref cl_NoPattern) (.type "BaseException") = some true)
    (af_eg_NoPattern : PySem.W.findIn K (.ref cl_NoPattern) "__getattribute__" = some (some (.builtin "BaseException.__getattribute__")))
    (af_ek_NoPattern : PySem.W.findIn K (.ref cl_NoPattern) "__getattr__" = some none)
    (af_ed_NoPattern : PySem.W.hasDictIn K cl_NoPattern = true)
    (af_ea_NoPattern : PySem.W.findIn K (.ref cl_NoPattern) "__class__" = some (some (.builtin "object.__class__")))
    (af_em_NoPattern : PySem.W.mroIn K cl_NoPattern (.type "object") = some true)
    (af_s_NoPattern_NoNumber : PySem.W.subIn K (.ref cl_NoPattern) (.ref cl_NoNumber) = some false)
    (af_s_NoPattern_NoPattern : PySem.W.subIn K (.ref cl_NoPattern) (.ref cl_NoPattern) = some true)
    (af_s_NoPattern_NoPlace : PySem.W.subIn K (.ref cl_NoPattern) (.ref cl_NoPlace) = some false)
    (af_s_NoPattern_NoOrder : PySem.W.subIn K (.ref cl_NoPattern) (.ref cl_NoOrder) = some false)
    (af_s_NoPattern_NoLetter : PySem.W.subIn K (.ref cl_NoPattern) (.ref cl_NoLetter) = some false)
    (af_s_NoPattern_NoTicket : PySem.W.subIn K (.ref cl_NoPattern) (.ref cl_NoTicket) = some false)
    (af_s_NoPattern_NoSize : PySem.W.subIn K (.ref cl_NoPattern) (.ref cl_NoSize) = some false)
    (af_s_NoPattern_NoEnd : PySem.W.subIn K (.ref cl_NoPattern) (.ref cl_NoEnd) = some false)
    (af_s_NoPattern_NoDeed : PySem.W.subIn K (.ref cl_NoPattern) (.ref cl_NoDeed) = some false)
    (af_s_NoPattern_NoText : PySem.W.subIn K (.ref cl_NoPattern) (.ref cl_NoText) = some false)
    (af_s_NoPattern_NoRow : PySem.W.subIn K (.ref cl_NoPattern) (.ref cl_NoRow) = some false)
    (af_s_NoPattern_NoForm : PySem.W.subIn K (.ref cl_NoPattern) (.ref cl_NoForm) = some false)
    (af_s_NoPattern_Halted : PySem.W.subIn K (.ref cl_NoPattern) (.ref cl_Halted) = some false)
    (af_s_NoPattern_NoBack : PySem.W.subIn K (.ref cl_NoPattern) (.ref cl_NoBack) = some false)
    (af_s_NoPattern_NoSuch : PySem.W.subIn K (.ref cl_NoPattern) (.ref cl_NoSuch) = some false)
    (af_s_NoPattern_NoStream : PySem.W.subIn K (.ref cl_NoPattern) (.ref cl_NoStream) = some false)
    (af_s_NoPattern_Busy : PySem.W.subIn K (.ref cl_NoPattern) (.ref cl_Busy) = some false)
    (af_s_NoPattern_Taken : PySem.W.subIn K (.ref cl_NoPattern) (.ref cl_Taken) = some false)
    (af_s_NoPattern_Same : PySem.W.subIn K (.ref cl_NoPattern) (.ref cl_Same) = some false)
    (af_s_NoPattern_Spent : PySem.W.subIn K (.ref cl_NoPattern) (.ref cl_Spent) = some false)
    (af_s_NoPattern_Twice : PySem.W.subIn K (.ref cl_NoPattern) (.ref cl_Twice) = some false)
    (af_s_NoPattern_TooMany : PySem.W.subIn K (.ref cl_NoPattern) (.ref cl_TooMany) = some false)
    (af_s_NoPattern_RowsError : PySem.W.subIn K (.ref cl_NoPattern) (.ref cl_RowsError) = some true)
    (af_s_NoPattern_Absent : PySem.W.subIn K (.ref cl_NoPattern) (.ref cl_Absent) = some false)
    (af_s_NoPattern_Barred : PySem.W.subIn K (.ref cl_NoPattern) (.ref cl_Barred) = some false)
    (af_s_NoPattern_ValueError : PySem.W.subIn K (.ref cl_NoPattern) (.type "ValueError") = some true)
    (af_s_NoPattern_LookupError : PySem.W.subIn K (.ref cl_NoPattern) (.type "LookupError") = some false)
    (af_s_NoPattern_RuntimeError : PySem.W.subIn K (.ref cl_NoPattern) (.type "RuntimeError") = some false)
    (af_s_NoPattern_ArithmeticError : PySem.W.subIn K (.ref cl_NoPattern) (.type "ArithmeticError") = some false)
    (af_k_NoLetter : PySem.W.keepIn K (.ref cl_NoLetter) = true)
    (af_x_NoLetter : PySem.W.excIn K cl_NoLetter [.type "ValueError", .type "Exception", .type "BaseException", .type "object"] "ValueError.__new__" = true)
    (af_b_NoLetter : PySem.W.subIn K (.ref cl_NoLetter) (.type "BaseException") = some true)
    (af_eg_NoLetter : PySem.W.findIn K (.ref cl_NoLetter) "__getattribute__" = some (some (.builtin "BaseException.__getattribute__")))
    (af_ek_NoLetter : PySem.W.findIn K (.ref cl_NoLetter) "__getattr__" = some none)
    (af_ed_NoLetter : PySem.W.hasDictIn K cl_NoLetter = true)
    (af_ea_NoLetter : PySem.W.findIn K (.ref cl_NoLetter) "__class__" = some (some (.builtin "object.__class__")))
    (af_em_NoLetter : PySem.W.mroIn K cl_NoLetter (.type "object") = some true)
    (af_s_NoLetter_NoNumber : PySem.W.subIn K (.ref cl_NoLetter) (.ref cl_NoNumber) = some false)
    (af_s_NoLetter_NoLetter : PySem.W.subIn K (.ref cl_NoLetter) (.ref cl_NoLetter) = some true)
    (af_s_NoLetter_NoPlace : PySem.W.subIn K (.ref cl_NoLetter) (.ref cl_NoPlace) = some false)
    (af_s_NoLetter_NoOrder : PySem.W.subIn K (.ref cl_NoLetter) (.ref cl_NoOrder) = some false)
    (af_s_NoLetter_NoPattern : PySem.W.subIn K (.ref cl_NoLetter) (.ref cl_NoPattern) = some false)
    (af_s_NoLetter_NoTicket : PySem.W.subIn K (.ref cl_NoLetter) (.ref cl_NoTicket) = some false)
    (af_s_NoLetter_NoSize : PySem.W.subIn K (.ref cl_NoLetter) (.ref cl_NoSize) = some false)
    (af_s_NoLetter_NoEnd : PySem.W.subIn K (.ref cl_NoLetter) (.ref cl_NoEnd) = some false)
    (af_s_NoLetter_NoDeed : PySem.W.subIn K (.ref cl_NoLetter) (.ref cl_NoDeed) = some false)
    (af_s_NoLetter_NoText : PySem.W.subIn K (.ref cl_NoLetter) (.ref cl_NoText) = some false)
    (af_s_NoLetter_NoRow : PySem.W.subIn K (.ref cl_NoLetter) (.ref cl_NoRow) = some false)
    (af_s_NoLetter_NoForm : PySem.W.subIn K (.ref cl_NoLetter) (.ref cl_NoForm) = some false)
    (af_s_NoLetter_Halted : PySem.W.subIn K (.ref cl_NoLetter) (.ref cl_Halted) = some false)
    (af_s_NoLetter_NoBack : PySem.W.subIn K (.ref cl_NoLetter) (.ref cl_NoBack) = some false)
    (af_s_NoLetter_NoSuch : PySem.W.subIn K (.ref cl_NoLetter) (.ref cl_NoSuch) = some false)
    (af_s_NoLetter_NoStream : PySem.W.subIn K (.ref cl_NoLetter) (.ref cl_NoStream) = some false)
    (af_s_NoLetter_Busy : PySem.W.subIn K (.ref cl_NoLetter) (.ref cl_Busy) = some false)
    (af_s_NoLetter_Taken : PySem.W.subIn K (.ref cl_NoLetter) (.ref cl_Taken) = some false)
    (af_s_NoLetter_Same : PySem.W.subIn K (.ref cl_NoLetter) (.ref cl_Same) = some false)
    (af_s_NoLetter_Spent : PySem.W.subIn K (.ref cl_NoLetter) (.ref cl_Spent) = some false)
    (af_s_NoLetter_Twice : PySem.W.subIn K (.ref cl_NoLetter) (.ref cl_Twice) = some false)
    (af_s_NoLetter_TooMany : PySem.W.subIn K (.ref cl_NoLetter) (.ref cl_TooMany) = some false)
    (af_s_NoLetter_RowsError : PySem.W.subIn K (.ref cl_NoLetter) (.ref cl_RowsError) = some true)
    (af_s_NoLetter_Absent : PySem.W.subIn K (.ref cl_NoLetter) (.ref cl_Absent) = some false)
    (af_s_NoLetter_Barred : PySem.W.subIn K (.ref cl_NoLetter) (.ref cl_Barred) = some false)
    (af_s_NoLetter_ValueError : PySem.W.subIn K (.ref cl_NoLetter) (.type "ValueError") = some true)
    (af_s_NoLetter_LookupError : PySem.W.subIn K (.ref cl_NoLetter) (.type "LookupError") = some false)
    (af_s_NoLetter_RuntimeError : PySem.W.subIn K (.ref cl_NoLetter) (.type "RuntimeError") = some false)
    (af_s_NoLetter_ArithmeticError : PySem.W.subIn K (.ref cl_NoLetter) (.type "ArithmeticError") = some false)
    (af_k_NoTicket : PySem.W.keepIn K (.ref cl_NoTicket) = true)
    (af_x_NoTicket : PySem.W.excIn K cl_NoTicket [.type "ValueError", .type "Exception", .type "BaseException", .type "object"] "ValueError.__new__" = true)
    (af_b_NoTicket : PySem.W.subIn K (.ref cl_NoTicket) (.type "BaseException") = some true)
    (af_eg_NoTicket : PySem.W.findIn K (.ref cl_NoTicket) "__getattribute__" = some (some (.builtin "BaseException.__getattribute__")))
    (af_ek_NoTicket : PySem.W.findIn K (.ref cl_NoTicket) "__getattr__" = some none)
    (af_ed_NoTicket : PySem.W.hasDictIn K cl_NoTicket = true)
    (af_ea_NoTicket : PySem.W.findIn K (.ref cl_NoTicket) "__class__" = some (some (.builtin "object.__class__")))
    (af_em_NoTicket : PySem.W.mroIn K cl_NoTicket (.type "object") = some true)
    (af_s_NoTicket_NoNumber : PySem.W.subIn K (.ref cl_NoTicket) (.ref cl_NoNumber) = some false)
    (af_s_NoTicket_NoTicket : PySem.W.subIn K (.ref cl_NoTicket) (.ref cl_NoTicket) = some true)
    (af_s_NoTicket_NoPlace : PySem.W.subIn K (.ref cl_NoTicket) (.ref cl_NoPlace) = some false)
    (af_s_NoTicket_NoOrder : PySem.W.subIn K (.ref cl_NoTicket) (.ref cl_NoOrder) = some false)
    (af_s_NoTicket_NoPattern : PySem.W.subIn K (.ref cl_NoTicket) (.ref cl_NoPattern) = some false)
    (af_s_NoTicket_NoLetter : PySem.W.subIn K (.ref cl_NoTicket) (.ref cl_NoLetter) = some false)
    (af_s_NoTicket_NoSize : PySem.W.subIn K (.ref cl_NoTicket) (.ref cl_NoSize) = some false)
    (af_s_NoTicket_NoEnd : PySem.W.subIn K (.ref cl_NoTicket) (.ref cl_NoEnd) = some false)
    (af_s_NoTicket_NoDeed : PySem.W.subIn K (.ref cl_NoTicket) (.ref cl_NoDeed) = some false)
    (af_s_NoTicket_NoText : PySem.W.subIn K (.ref cl_NoTicket) (.ref cl_NoText) = some false)
    (af_s_NoTicket_NoRow : PySem.W.subIn K (.ref cl_NoTicket) (.ref cl_NoRow) = some false)
    (af_s_NoTicket_NoForm : PySem.W.subIn K (.ref cl_NoTicket) (.ref cl_NoForm) = some false)
    (af_s_NoTicket_Halted : PySem.W.subIn K (.ref cl_NoTicket) (.ref cl_Halted) = some false)
    (af_s_NoTicket_NoBack : PySem.W.subIn K (.ref cl_NoTicket) (.ref cl_NoBack) = some false)
    (af_s_NoTicket_NoSuch : PySem.W.subIn K (.ref cl_NoTicket) (.ref cl_NoSuch) = some false)
    (af_s_NoTicket_NoStream : PySem.W.subIn K (.ref cl_NoTicket) (.ref cl_NoStream) = some false)
    (af_s_NoTicket_Busy : PySem.W.subIn K (.ref cl_NoTicket) (.ref cl_Busy) = some false)
    (af_s_NoTicket_Taken : PySem.W.subIn K (.ref cl_NoTicket) (.ref cl_Taken) = some false)
    (af_s_NoTicket_Same : PySem.W.subIn K (.ref cl_NoTicket) (.ref cl_Same) = some false)
    (af_s_NoTicket_Spent : PySem.W.subIn K (.ref cl_NoTicket) (.ref cl_Spent) = some false)
    (af_s_NoTicket_Twice : PySem.W.subIn K (.ref cl_NoTicket) (.ref cl_Twice) = some false)
    (af_s_NoTicket_TooMany : PySem.W.subIn K (.ref cl_NoTicket) (.ref cl_TooMany) = some false)
    (af_s_NoTicket_RowsError : PySem.W.subIn K (.ref cl_NoTicket) (.ref cl_RowsError) = some true)
    (af_s_NoTicket_Absent : PySem.W.subIn K (.ref cl_NoTicket) (.ref cl_Absent) = some false)
    (af_s_NoTicket_Barred : PySem.W.subIn K (.ref cl_NoTicket) (.ref cl_Barred) = some false)
    (af_s_NoTicket_ValueError : PySem.W.subIn K (.ref cl_NoTicket) (.type "ValueError") = some true)
    (af_s_NoTicket_LookupError : PySem.W.subIn K (.ref cl_NoTicket) (.type "LookupError") = some false)
    (af_s_NoTicket_RuntimeError : PySem.W.subIn K (.ref cl_NoTicket) (.type "RuntimeError") = some false)
    (af_s_NoTicket_ArithmeticError : PySem.W.subIn K (.ref cl_NoTicket) (.type "ArithmeticError") = some false)
    (af_k_NoSize : PySem.W.keepIn K (.ref cl_NoSize) = true)
    (af_x_NoSize : PySem.W.excIn K cl_NoSize [.type "ValueError", .type "Exception", .type "BaseException", .type "object"] "ValueError.__new__" = true)
    (af_b_NoSize : PySem.W.subIn K (.ref cl_NoSize) (.type "BaseException") = some true)
    (af_eg_NoSize : PySem.W.findIn K (.ref cl_NoSize) "__getattribute__" = some (some (.builtin "BaseException.__getattribute__")))
    (af_ek_NoSize : PySem.W.findIn K (.ref cl_NoSize) "__getattr__" = some none)
    (af_ed_NoSize : PySem.W.hasDictIn K cl_NoSize = true)
    (af_ea_NoSize : PySem.W.findIn K (.ref cl_NoSize) "__class__" = some (some (.builtin "object.__class__")))
    (af_em_NoSize : PySem.W.mroIn K cl_NoSize (.type "object") = some true)
    (af_s_NoSize_NoNumber : PySem.W.subIn K (.ref cl_NoSize) (.ref cl_NoNumber) = some false)
    (af_s_NoSize_NoSize : PySem.W.subIn K (.ref cl_NoSize) (.ref cl_NoSize) = some true)
    (af_s_NoSize_NoPlace : PySem.W.subIn K (.ref cl_NoSize) (.ref cl_NoPlace) = some false)
    (af_s_NoSize_NoOrder : PySem.W.subIn K (.ref cl_NoSize) (.ref cl_NoOrder) = some false)
    (af_s_NoSize_NoPattern : PySem.W.subIn K (.ref cl_NoSize) (.ref cl_NoPattern) = some false)
    (af_s_NoSize_NoLetter : PySem.W.subIn K (.ref cl_NoSize) (.ref cl_NoLetter) = some false)
    (af_s_NoSize_NoTicket : PySem.W.subIn K (.ref cl_NoSize) (.ref cl_NoTicket) = some false)
    (af_s_NoSize_NoEnd : PySem.W.subIn K (.ref cl_NoSize) (.ref cl_NoEnd) = some false)
    (af_s_NoSize_NoDeed : PySem.W.subIn K (.ref cl_NoSize) (.ref cl_NoDeed) = some false)
    (af_s_NoSize_NoText : PySem.W.subIn K (.ref cl_NoSize) (.ref cl_NoText) = some false)
    (af_s_NoSize_NoRow : PySem.W.subIn K (.ref cl_NoSize) (.ref cl_NoRow) = some false)
    (af_s_NoSize_NoForm : PySem.W.subIn K (.ref cl_NoSize) (.ref cl_NoForm) = some false)
    (af_s_NoSize_Halted : PySem.W.subIn K (.ref cl_NoSize) (.ref cl_Halted) = some false)
    (af_s_NoSize_NoBack : PySem.W.subIn K (.ref cl_NoSize) (.ref cl_NoBack) = some false)
    (af_s_NoSize_NoSuch : PySem.W.subIn K (.ref cl_NoSize) (.ref cl_NoSuch) = some false)
    (af_s_NoSize_NoStream : PySem.W.subIn K (.ref cl_NoSize) (.ref cl_NoStream) = some false)
    (af_s_NoSize_Busy : PySem.W.subIn K (.ref cl_NoSize) (.ref cl_Busy) = some false)
    (af_s_NoSize_Taken : PySem.W.subIn K (.ref cl_NoSize) (.ref cl_Taken) = some false)
    (af_s_NoSize_Same : PySem.W.subIn K (.ref cl_NoSize) (.ref cl_Same) = some false)
    (af_s_NoSize_Spent : PySem.W.subIn K (.ref cl_NoSize) (.ref cl_Spent) = some false)
    (af_s_NoSize_Twice : PySem.W.subIn K (.ref cl_NoSize) (.ref cl_Twice) = some false)
    (af_s_NoSize_TooMany : PySem.W.subIn K (.ref cl_NoSize) (.ref cl_TooMany) = some false)
    (af_s_NoSize_RowsError : PySem.W.subIn K (.ref cl_NoSize) (.ref cl_RowsError) = some true)
    (af_s_NoSize_Absent : PySem.W.subIn K (.ref cl_NoSize) (.ref cl_Absent) = some false)
    (af_s_NoSize_Barred : PySem.W.subIn K (.ref cl_NoSize) (.ref cl_Barred) = some false)
    (af_s_NoSize_ValueError : PySem.W.subIn K (.ref cl_NoSize) (.type "ValueError") = some true)
    (af_s_NoSize_LookupError : PySem.W.subIn K (.ref cl_NoSize) (.type "LookupError") = some false)
    (af_s_NoSize_RuntimeError : PySem.W.subIn K (.ref cl_NoSize) (.type "RuntimeError") = some false)
    (af_s_NoSize_ArithmeticError : PySem.W.subIn K (.ref cl_NoSize) (.type "ArithmeticError") = some false)
    (af_k_NoEnd : PySem.W.keepIn K (.ref cl_NoEnd) = true)
    (af_x_NoEnd : PySem.W.excIn K cl_NoEnd [.type "ValueError", .type "Exception", .type "BaseException", .type "object"] "ValueError.__new__" = true)
    (af_b_NoEnd : PySem.W.subIn K (.ref cl_NoEnd) (.type "BaseException") = some true)
    (af_eg_NoEnd : PySem.W.findIn K (.ref cl_NoEnd) "__getattribute__" = some (some (.builtin "BaseException.__getattribute__")))
    (af_ek_NoEnd : PySem.W.findIn K (.ref cl_NoEnd) "__getattr__" = some none)
    (af_ed_NoEnd : PySem.W.hasDictIn K cl_NoEnd = true)
    (af_ea_NoEnd : PySem.W.findIn K (.ref cl_NoEnd) "__class__" = some (some (.builtin "object.__class__")))
    (af_em_NoEnd : PySem.W.mroIn K cl_NoEnd (.type "object") = some true)
    (af_s_NoEnd_NoNumber : PySem.W.subIn K (.ref cl_NoEnd) (.ref cl_NoNumber) = some false)
    (af_s_NoEnd_NoEnd : PySem.W.subIn K (.ref cl_NoEnd) (.ref cl_NoEnd) = some true)
    (af_s_NoEnd_NoPlace : PySem.W.subIn K (.ref cl_NoEnd) (.ref cl_NoPlace) = some false)
    (af_s_NoEnd_NoOrder : PySem.W.subIn K (.ref cl_NoEnd) (.ref cl_NoOrder) = some false)
    (af_s_NoEnd_NoPattern : PySem.W.subIn K (.ref cl_NoEnd) (.ref cl_NoPattern) = some false)
    (af_s_NoEnd_NoLetter : PySem.W.subIn K (.ref cl_NoEnd) (.ref cl_NoLetter) = some false)
    (af_s_NoEnd_NoTicket : PySem.W.subIn K (.ref cl_NoEnd) (.ref cl_NoTicket) = some false)
    (af_s_NoEnd_NoSize : PySem.W.subIn K (.ref cl_NoEnd) (.ref cl_NoSize) = some false)
    (af_s_NoEnd_NoDeed : PySem.W.subIn K (.ref cl_NoEnd) (.ref cl_NoDeed) = some false)
    (af_s_NoEnd_NoText : PySem.W.subIn K (.ref cl_NoEnd) (.ref cl_NoText) = some false)
    (af_s_NoEnd_NoRow : PySem.W.subIn K (.ref cl_NoEnd) (.ref cl_NoRow) = some false)
    (af_s_NoEnd_NoForm : PySem.W.subIn K (.ref cl_NoEnd) (.ref cl_NoForm) = some false)
    (af_s_NoEnd_Halted : PySem.W.subIn K (.ref cl_NoEnd) (.ref cl_Halted) = some false)
    (af_s_NoEnd_NoBack : PySem.W.subIn K (.ref cl_NoEnd) (.ref cl_NoBack) = some false)
    (af_s_NoEnd_NoSuch : PySem.W.subIn K (.ref cl_NoEnd) (.ref cl_NoSuch) = some false)
    (af_s_NoEnd_NoStream : PySem.W.subIn K (.ref cl_NoEnd) (.ref cl_NoStream) = some false)
    (af_s_NoEnd_Busy : PySem.W.subIn K (.ref cl_NoEnd) (.ref cl_Busy) = some false)
    (af_s_NoEnd_Taken : PySem.W.subIn K (.ref cl_NoEnd) (.ref cl_Taken) = some false)
    (af_s_NoEnd_Same : PySem.W.subIn K (.ref cl_NoEnd) (.ref cl_Same) = some false)
    (af_s_NoEnd_Spent : PySem.W.subIn K (.ref cl_NoEnd) (.ref cl_Spent) = some false)
    (af_s_NoEnd_Twice : PySem.W.subIn K (.ref cl_NoEnd) (.ref cl_Twice) = some false)
    (af_s_NoEnd_TooMany : PySem.W.subIn K (.ref cl_NoEnd) (.ref cl_TooMany) = some false)
    (af_s_NoEnd_RowsError : PySem.W.subIn K (.ref cl_NoEnd) (.ref cl_RowsError) = some true)
    (af_s_NoEnd_Absent : PySem.W.subIn K (.ref cl_NoEnd) (.ref cl_Absent) = some false)
    (af_s_NoEnd_Barred : PySem.W.subIn K (.ref cl_NoEnd) (.ref cl_Barred) = some false)
    (af_s_NoEnd_ValueError : PySem.W.subIn K (.ref cl_NoEnd) (.type "ValueError") = some true)
    (af_s_NoEnd_LookupError : PySem.W.subIn K (.ref cl_NoEnd) (.type "LookupError") = some false)
    (af_s_NoEnd_RuntimeError : PySem.W.subIn K (.ref cl_NoEnd) (.type "RuntimeError") = some false)
    (af_s_NoEnd_ArithmeticError : PySem.W.subIn K (.ref cl_NoEnd) (.type "ArithmeticError") = some false)
    (af_k_NoDeed : PySem.W.keepIn K (.ref cl_NoDeed) = true)
    (af_x_NoDeed : PySem.W.excIn K cl_NoDeed [.type "ValueError", .type "Exception", .type "BaseException", .type "object"] "ValueError.__new__" = true)
    (af_b_NoDeed : PySem.W.subIn K (.ref cl_NoDeed) (.type "BaseException") = some true)
    (af_eg_NoDeed : PySem.W.findIn K (.ref cl_NoDeed) "__getattribute__" = some (some (.builtin "BaseException.__getattribute__")))
    (af_ek_NoDeed : PySem.W.findIn K (.ref cl_NoDeed) "__getattr__" = some none)
    (af_ed_NoDeed : PySem.W.hasDictIn K cl_NoDeed = true)
    (af_ea_NoDeed : PySem.W.findIn K (.ref cl_NoDeed) "__class__" = some (some (.builtin "object.__class__")))
    (af_em_NoDeed : PySem.W.mroIn K cl_NoDeed (.type "object") = some true)
    (af_s_NoDeed_NoNumber : PySem.W.subIn K (.ref cl_NoDeed) (.ref cl_NoNumber) = some false)
    (af_s_NoDeed_NoDeed : PySem.W.subIn K (.ref cl_NoDeed) (.ref cl_NoDeed) = some true)
    (af_s_NoDeed_NoPlace : PySem.W.subIn K (.ref cl_NoDeed) (.ref cl_NoPlace) = some false)
    (af_s_NoDeed_NoOrder : PySem.W.subIn K (.ref cl_NoDeed) (.ref cl_NoOrder) = some false)
    (af_s_NoDeed_NoPattern : PySem.W.subIn K (.ref cl_NoDeed) (.ref cl_NoPattern) = some false)
    (af_s_NoDeed_NoLetter : PySem.W.subIn K (.ref cl_NoDeed) (.ref cl_NoLetter) = some false)
    (af_s_NoDeed_NoTicket : PySem.W.subIn K (.ref cl_NoDeed) (.ref cl_NoTicket) = some false)
    (af_s_NoDeed_NoSize : PySem.W.subIn K (.ref cl_NoDeed) (.ref cl_NoSize) = some false)
    (af_s_NoDeed_NoEnd : PySem.W.subIn K (.ref cl_NoDeed) (.ref cl_NoEnd) = some false)
    (af_s_NoDeed_NoText : PySem.W.subIn K (.ref cl_NoDeed) (.ref cl_NoText) = some false)
    (af_s_NoDeed_NoRow : PySem.W.subIn K (.ref cl_NoDeed) (.ref cl_NoRow) = some false)
    (af_s_NoDeed_NoForm : PySem.W.subIn K (.ref cl_NoDeed) (.ref cl_NoForm) = some false)
    (af_s_NoDeed_Halted : PySem.W.subIn K (.ref cl_NoDeed) (.ref cl_Halted) = some false)
    (af_s_NoDeed_NoBack : PySem.W.subIn K (.ref cl_NoDeed) (.ref cl_NoBack) = some false)
    (af_s_NoDeed_NoSuch : PySem.W.subIn K (.ref cl_NoDeed) (.ref cl_NoSuch) = some false)
    (af_s_NoDeed_NoStream : PySem.W.subIn K (.ref cl_NoDeed) (.ref cl_NoStream) = some false)
    (af_s_NoDeed_Busy : PySem.W.subIn K (.ref cl_NoDeed) (.ref cl_Busy) = some false)
    (af_s_NoDeed_Taken : PySem.W.subIn K (.ref cl_NoDeed) (.ref cl_Taken) = some false)
    (af_s_NoDeed_Same : PySem.W.subIn K (.ref cl_NoDeed) (.ref cl_Same) = some false)
    (af_s_NoDeed_Spent : PySem.W.subIn K (.ref cl_NoDeed) (.ref cl_Spent) = some false)
    (af_s_NoDeed_Twice : PySem.W.subIn K (.ref cl_NoDeed) (.ref cl_Twice) = some false)
    (af_s_NoDeed_TooMany : PySem.W.subIn K (.ref cl_NoDeed) (.ref cl_TooMany) = some false)
    (af_s_NoDeed_RowsError : PySem.W.subIn K (.ref cl_NoDeed) (.ref cl_RowsError) = some true)
    (af_s_NoDeed_Absent : PySem.W.subIn K (.ref cl_NoDeed) (.ref cl_Absent) = some false)
    (af_s_NoDeed_Barred : PySem.W.subIn K (.ref cl_NoDeed) (.ref cl_Barred) = some false)
    (af_s_NoDeed_ValueError : PySem.W.subIn K (.ref cl_NoDeed) (.type "ValueError") = some true)
    (af_s_NoDeed_LookupError : PySem.W.subIn K (.ref cl_NoDeed) (.type "LookupError") = some false)
    (af_s_NoDeed_RuntimeError : PySem.W.subIn K (.ref cl_NoDeed) (.type "RuntimeError") = some false)
    (af_s_NoDeed_ArithmeticError : PySem.W.subIn K (.ref cl_NoDeed) (.type "ArithmeticError") = some false)
    (af_k_NoText : PySem.W.keepIn K (.ref cl_NoText) = true)
    (af_x_NoText : PySem.W.excIn K cl_NoText [.type "ValueError", .type "Exception", .type "BaseException", .type "object"] "ValueError.__new__" = true)
    (af_b_NoText : PySem.W.subIn K (.ref cl_NoText) (.type "BaseException") = some true)
    (af_eg_NoText : PySem.W.findIn K (.ref cl_NoText) "__getattribute__" = some (some (.builtin "BaseException.__getattribute__")))
    (af_ek_NoText : PySem.W.findIn K (.ref cl_NoText) "__getattr__" = some none)
    (af_ed_NoText : PySem.W.hasDictIn K cl_NoText = true)
    (af_ea_NoText : PySem.W.findIn K (.ref cl_NoText) "__class__" = some (some (.builtin "object.__class__")))
    (af_em_NoText : PySem.W.mroIn K cl_NoText (.type "object") = some true)
    (af_s_NoText_NoNumber : PySem.W.subIn K (.ref cl_NoText) (.ref cl_NoNumber) = some false)
    (af_s_NoText_NoText : PySem.W.subIn K (.ref cl_NoText) (.ref cl_NoText) = some true)
    (af_s_NoText_NoPlace : PySem.W.subIn K (.ref cl_NoText) (.ref cl_NoPlace) = some false)
    (af_s_NoText_NoOrder : PySem.W.subIn K (.ref cl_NoText) (.ref cl_NoOrder) = some false)
    (af_s_NoText_NoPattern : PySem.W.subIn K (.ref cl_NoText) (.ref cl_NoPattern) = some false)
    (af_s_NoText_NoLetter : PySem.W.subIn K (.ref cl_NoText) (.ref cl_NoLetter) = some false)
    (af_s_NoText_NoTicket : PySem.W.subIn K (.ref cl_NoText) (.ref cl_NoTicket) = some false)
    (af_s_NoText_NoSize : PySem.W.subIn K (.ref cl_NoText) (.ref cl_NoSize) = some false)
    (af_s_NoText_NoEnd : PySem.W.subIn K (.ref cl_NoText) (.ref cl_NoEnd) = some false)
    (af_s_NoText_NoDeed : PySem.W.subIn K (.ref cl_NoText) (.ref cl_NoDeed) = some false)
    (af_s_NoText_NoRow : PySem.W.subIn K (.ref cl_NoText) (.ref cl_NoRow) = some false)
    (af_s_NoText_NoForm : PySem.W.subIn K (.ref cl_NoText) (.ref cl_NoForm) = some false)
    (af_s_NoText_Halted : PySem.W.subIn K (.ref cl_NoText) (.ref cl_Halted) = some false)
    (af_s_NoText_NoBack : PySem.W.subIn K (.ref cl_NoText) (.ref cl_NoBack) = some false)
    (af_s_NoText_NoSuch : PySem.W.subIn K (.ref cl_NoText) (.ref cl_NoSuch) = some false)
    (af_s_NoText_NoStream : PySem.W.subIn K (.ref cl_NoText) (.ref cl_NoStream) = some false)
    (af_s_NoText_Busy : PySem.W.subIn K (.ref cl_NoText) (.ref cl_Busy) = some false)
    (af_s_NoText_Taken : PySem.W.subIn K (.ref cl_NoText) (.ref cl_Taken) = some false)
    (af_s_NoText_Same : PySem.W.subIn K (.ref cl_NoText) (.ref cl_Same) = some false)
    (af_s_NoText_Spent : PySem.W.subIn K (.ref cl_NoText) (.ref cl_Spent) = some false)
    (af_s_NoText_Twice : PySem.W.subIn K (.ref cl_NoText) (.ref cl_Twice) = some false)
    (af_s_NoText_TooMany : PySem.W.subIn K (.ref cl_NoText) (.ref cl_TooMany) = some false)
    (af_s_NoText_RowsError : PySem.W.subIn K (.ref cl_NoText) (.ref cl_RowsError) = some true)
    (af_s_NoText_Absent : PySem.W.subIn K (.ref cl_NoText) (.ref cl_Absent) = some false)
    (af_s_NoText_Barred : PySem.W.subIn K (.ref cl_NoText) (.ref cl_Barred) = some false)
    (af_s_NoText_ValueError : PySem.W.subIn K (.ref cl_NoText) (.type "ValueError") = some true)
    (af_s_NoText_LookupError : PySem.W.subIn K (.ref cl_NoText) (.type "LookupError") = some false)
    (af_s_NoText_RuntimeError : PySem.W.subIn K (.ref cl_NoText) (.type "RuntimeError") = some false)
    (af_s_NoText_ArithmeticError : PySem.W.subIn K (.ref cl_NoText) (.type "ArithmeticError") = some false)
    (af_k_NoRow : PySem.W.keepIn K (.ref cl_NoRow) = true)
    (af_x_NoRow : PySem.W.excIn K cl_NoRow [.type "ValueError", .type "Exception", .type "BaseException", .type "object"] "ValueError.__new__" = true)
    (af_b_NoRow : PySem.W.subIn K (.ref cl_NoRow) (.type "BaseException") = some true)
    (af_eg_NoRow : PySem.W.findIn K (.ref cl_NoRow) "__getattribute__" = some (some (.builtin "BaseException.__getattribute__")))
    (af_ek_NoRow : PySem.W.findIn K (.ref cl_NoRow) "__getattr__" = some none)
    (af_ed_NoRow : PySem.W.hasDictIn K cl_NoRow = true)
    (af_ea_NoRow : PySem.W.findIn K (.ref cl_NoRow) "__class__" = some (some (.builtin "object.__class__")))
    (af_em_NoRow : PySem.W.mroIn K cl_NoRow (.type "object") = some true)
    (af_s_NoRow_NoNumber : PySem.W.subIn K (.ref cl_NoRow) (.ref cl_NoNumber) = some false)
    (af_s_NoRow_NoRow : PySem.W.subIn K (.ref cl_NoRow) (.ref cl_NoRow) = some true)
    (af_s_NoRow_NoPlace : PySem.W.subIn K (.ref cl_NoRow) (.ref cl_NoPlace) = some false)
    (af_s_NoRow_NoOrder : PySem.W.subIn K (.ref cl_NoRow) (.ref cl_NoOrder) = some false)
    (af_s_NoRow_NoPattern : PySem.W.subIn K (.ref cl_NoRow) (.ref cl_NoPattern) = some false)
    (af_s_NoRow_NoLetter : PySem.W.subIn K (.ref cl_NoRow) (.ref cl_NoLetter) = some false)
    (af_s_NoRow_NoTicket : PySem.W.subIn K (.ref cl_NoRow) (.ref cl_NoTicket) = some false)
    (af_s_NoRow_NoSize : PySem.W.subIn K (.ref cl_NoRow) (.ref cl_NoSize) = some false)
    (af_s_NoRow_NoEnd : PySem.W.subIn K (.ref cl_NoRow) (.ref cl_NoEnd) = some false)
    (af_s_NoRow_NoDeed : PySem.W.subIn K (.ref cl_NoRow) (.ref cl_NoDeed) = some false)
    (af_s_NoRow_NoText : PySem.W.subIn K (.ref cl_NoRow) (.ref cl_NoText) = some false)
    (af_s_NoRow_NoForm : PySem.W.subIn K (.ref cl_NoRow) (.ref cl_NoForm) = some false)
    (af_s_NoRow_Halted : PySem.W.subIn K (.ref cl_NoRow) (.ref cl_Halted) = some false)
    (af_s_NoRow_NoBack : PySem.W.subIn K (.ref cl_NoRow) (.ref cl_NoBack) = some false)
    (af_s_NoRow_NoSuch : PySem.W.subIn K (.ref cl_NoRow) (.ref cl_NoSuch) = some false)
    (af_s_NoRow_NoStream : PySem.W.subIn K (.ref cl_NoRow) (.ref cl_NoStream) = some false)
    (af_s_NoRow_Busy : PySem.W.subIn K (.ref cl_NoRow) (.ref cl_Busy) = some false)
    (af_s_NoRow_Taken : PySem.W.subIn K (.ref cl_NoRow) (.ref cl_Taken) = some false)
    (af_s_NoRow_Same : PySem.W.subIn K (.ref cl_NoRow) (.ref cl_Same) = some false)
    (af_s_NoRow_Spent : PySem.W.subIn K (.ref cl_NoRow) (.ref cl_Spent) = some false)
    (af_s_NoRow_Twice : PySem.W.subIn K (.ref cl_NoRow) (.ref cl_Twice) = some false)
    (af_s_NoRow_TooMany : PySem.W.subIn K (.ref cl_NoRow) (.ref cl_TooMany) = some false)
    (af_s_NoRow_RowsError : PySem.W.subIn K (.ref cl_NoRow) (.ref cl_RowsError) = some true)
    (af_s_NoRow_Absent : PySem.W.subIn K (.ref cl_NoRow) (.ref cl_Absent) = some false)
    (af_s_NoRow_Barred : PySem.W.subIn K (.ref cl_NoRow) (.ref cl_Barred) = some false)
    (af_s_NoRow_ValueError : PySem.W.subIn K (.ref cl_NoRow) (.type "ValueError") = some true)
    (af_s_NoRow_LookupError : PySem.W.subIn K (.ref cl_NoRow) (.type "LookupError") = some false)
    (af_s_NoRow_RuntimeError : PySem.W.subIn K (.ref cl_NoRow) (.type "RuntimeError") = some false)
    (af_s_NoRow_ArithmeticError : PySem.W.subIn K (.ref cl_NoRow) (.type "ArithmeticError") = some false)
    (af_k_NoForm : PySem.W.keepIn K (.ref cl_NoForm) = true)
    (af_ai_NoForm : PySem.W.excInitIn K cl_NoForm [.type "ValueError", .type "Exception", .type "BaseException", .type "object"] "ValueError.__new__" = true)
    (af_ao_NoForm : PySem.W.excOver K cl_NoForm [.type "ValueError", .type "Exception", .type "BaseException", .type "object"] = true)
    (af_ed_NoForm : PySem.W.hasDictIn K cl_NoForm = true)
    (af_sa_NoForm : PySem.W.findIn K (.ref cl_NoForm) "__setattr__" = some (some (.builtin "object.__setattr__")))
    (af_b_NoForm : PySem.W.subIn K (.ref cl_NoForm) (.type "BaseException") = some true)
    (af_n_NoForm_what : PySem.W.findIn K (.ref cl_NoForm) "what" = some none)
    (af_sg_RowsError : PySem.W.specialIn K (.ref cl_RowsError) "__getattribute__" = some (some (.builtin "type.__getattribute__")))
    (af_rd_RowsError : PySem.W.readsIn K cl_RowsError (.type "type") = true)
    (af_fv_RowsError : PySem.W.findCls K (.ref cl_RowsError) (.type "type") "__init__" = some (.val (.builtin "ValueError.__init__")))
    (af_eg_NoForm : PySem.W.findIn K (.ref cl_NoForm) "__getattribute__" = some (some (.builtin "BaseException.__getattribute__")))
    (af_ek_NoForm : PySem.W.findIn K (.ref cl_NoForm) "__getattr__" = some none)
    (af_ea_NoForm : PySem.W.findIn K (.ref cl_NoForm) "__class__" = some (some (.builtin "object.__class__")))
    (af_em_NoForm : PySem.W.mroIn K cl_NoForm (.type "object") = some true)
    (af_s_NoForm_NoNumber : PySem.W.subIn K (.ref cl_NoForm) (.ref cl_NoNumber) = some false)
    (af_s_NoForm_NoForm : PySem.W.subIn K (.ref cl_NoForm) (.ref cl_NoForm) = some true)
    (af_s_NoForm_NoPlace : PySem.W.subIn K (.ref cl_NoForm) (.ref cl_NoPlace) = some false)
    (af_s_NoForm_NoOrder : PySem.W.subIn K (.ref cl_NoForm) (.ref cl_NoOrder) = some false)
    (af_s_NoForm_NoPattern : PySem.W.subIn K (.ref cl_NoForm) (.ref cl_NoPattern) = some false)
    (af_s_NoForm_NoLetter : PySem.W.subIn K (.ref cl_NoForm) (.ref cl_NoLetter) = some false)
    (af_s_NoForm_NoTicket : PySem.W.subIn K (.ref cl_NoForm) (.ref cl_NoTicket) = some false)
    (af_s_NoForm_NoSize : PySem.W.subIn K (.ref cl_NoForm) (.ref cl_NoSize) = some false)
    (af_s_NoForm_NoEnd : PySem.W.subIn K (.ref cl_NoForm) (.ref cl_NoEnd) = some false)
    (af_s_NoForm_NoDeed : PySem.W.subIn K (.ref cl_NoForm) (.ref cl_NoDeed) = some false)
    (af_s_NoForm_NoText : PySem.W.subIn K (.ref cl_NoForm) (.ref cl_NoText) = some false)
    (af_s_NoForm_NoRow : PySem.W.subIn K (.ref cl_NoForm) (.ref cl_NoRow) = some false)
    (af_s_NoForm_Halted : PySem.W.subIn K (.ref cl_NoForm) (.ref cl_Halted) = some false)
    (af_s_NoForm_NoBack : PySem.W.subIn K (.ref cl_NoForm) (.ref cl_NoBack) = some false)
    (af_s_NoForm_NoSuch : PySem.W.subIn K (.ref cl_NoForm) (.ref cl_NoSuch) = some false)
    (af_s_NoForm_NoStream : PySem.W.subIn K (.ref cl_NoForm) (.ref cl_NoStream) = some false)
    (af_s_NoForm_Busy : PySem.W.subIn K (.ref cl_NoForm) (.ref cl_Busy) = some false)
    (af_s_NoForm_Taken : PySem.W.subIn K (.ref cl_NoForm) (.ref cl_Taken) = some false)
    (af_s_NoForm_Same : PySem.W.subIn K (.ref cl_NoForm) (.ref cl_Same) = some false)
    (af_s_NoForm_Spent : PySem.W.subIn K (.ref cl_NoForm) (.ref cl_Spent) = some false)
    (af_s_NoForm_Twice : PySem.W.subIn K (.ref cl_NoForm) (.ref cl_Twice) = some false)
    (af_s_NoForm_TooMany : PySem.W.subIn K (.ref cl_NoForm) (.ref cl_TooMany) = some false)
    (af_s_NoForm_RowsError : PySem.W.subIn K (.ref cl_NoForm) (.ref cl_RowsError) = some true)
    (af_s_NoForm_Absent : PySem.W.subIn K (.ref cl_NoForm) (.ref cl_Absent) = some false)
    (af_s_NoForm_Barred : PySem.W.subIn K (.ref cl_NoForm) (.ref cl_Barred) = some false)
    (af_s_NoForm_ValueError : PySem.W.subIn K (.ref cl_NoForm) (.type "ValueError") = some true)
    (af_s_NoForm_LookupError : PySem.W.subIn K (.ref cl_NoForm) (.type "LookupError") = some false)
    (af_s_NoForm_RuntimeError : PySem.W.subIn K (.ref cl_NoForm) (.type "RuntimeError") = some false)
    (af_s_NoForm_ArithmeticError : PySem.W.subIn K (.ref cl_NoForm) (.type "ArithmeticError") = some false)
    (af_k_Halted : PySem.W.keepIn K (.ref cl_Halted) = true)
    (af_ai_Halted : PySem.W.excInitIn K cl_Halted [.type "ValueError", .type "Exception", .type "BaseException", .type "object"] "ValueError.__new__" = true)
    (af_ao_Halted : PySem.W.excOver K cl_Halted [.type "ValueError", .type "Exception", .type "BaseException", .type "object"] = true)
    (af_ed_Halted : PySem.W.hasDictIn K cl_Halted = true)
    (af_sa_Halted : PySem.W.findIn K (.ref cl_Halted) "__setattr__" = some (some (.builtin "object.__setattr__")))
    (af_b_Halted : PySem.W.subIn K (.ref cl_Halted) (.type "BaseException") = some true)
    (af_n_Halted_number : PySem.W.findIn K (.ref cl_Halted) "number" = some none)
    (af_n_Halted_answers : PySem.W.findIn K (.ref cl_Halted) "answers" = some none)
    (af_eg_Halted : PySem.W.findIn K (.ref cl_Halted) "__getattribute__" = some (some (.builtin "BaseException.__getattribute__")))
    (af_ek_Halted : PySem.W.findIn K (.ref cl_Halted) "__getattr__" = some none)
    (af_ea_Halted : PySem.W.findIn K (.ref cl_Halted) "__class__" = some (some (.builtin "object.__class__")))
    (af_em_Halted : PySem.W.mroIn K cl_Halted (.type "object") = some true)
    (af_s_Halted_NoNumber : PySem.W.subIn K (.ref cl_Halted) (.ref cl_NoNumber) = some false)
    (af_s_Halted_Halted : PySem.W.subIn K (.ref cl_Halted) (.ref cl_Halted) = some true)
    (af_s_Halted_NoPlace : PySem.W.subIn K (.ref cl_Halted) (.ref cl_NoPlace) = some false)
    (af_s_Halted_NoOrder : PySem.W.subIn K (.ref cl_Halted) (.ref cl_NoOrder) = some false)
    (af_s_Halted_NoPattern : PySem.W.subIn K (.ref cl_Halted) (.ref cl_NoPattern) = some false)
    (af_s_Halted_NoLetter : PySem.W.subIn K (.ref cl_Halted) (.ref cl_NoLetter) = some false)
    (af_s_Halted_NoTicket : PySem.W.subIn K (.ref cl_Halted) (.ref cl_NoTicket) = some false)
    (af_s_Halted_NoSize : PySem.W.subIn K (.ref cl_Halted) (.ref cl_NoSize) = some false)
    (af_s_Halted_NoEnd : PySem.W.subIn K (.ref cl_Halted) (.ref cl_NoEnd) = some false)
    (af_s_Halted_NoDeed : PySem.W.subIn K (.ref cl_Halted) (.ref cl_NoDeed) = some false)
    (af_s_Halted_NoText : PySem.W.subIn K (.ref cl_Halted) (.ref cl_NoText) = some false)
    (af_s_Halted_NoRow : PySem.W.subIn K (.ref cl_Halted) (.ref cl_NoRow) = some false)
    (af_s_Halted_NoForm : PySem.W.subIn K (.ref cl_Halted) (.ref cl_NoForm) = some false)
    (af_s_Halted_NoBack : PySem.W.subIn K (.ref cl_Halted) (.ref cl_NoBack) = some false)
    (af_s_Halted_NoSuch : PySem.W.subIn K (.ref cl_Halted) (.ref cl_NoSuch) = some false)
    (af_s_Halted_NoStream : PySem.W.subIn K (.ref cl_Halted) (.ref cl_NoStream) = some false)
    (af_s_Halted_Busy : PySem.W.subIn K (.ref cl_Halted) (.ref cl_Busy) = some false)
    (af_s_Halted_Taken : PySem.W.subIn K (.ref cl_Halted) (.ref cl_Taken) = some false)
    (af_s_Halted_Same : PySem.W.subIn K (.ref cl_Halted) (.ref cl_Same) = some false)
    (af_s_Halted_Spent : PySem.W.subIn K (.ref cl_Halted) (.ref cl_Spent) = some false)
    (af_s_Halted_Twice : PySem.W.subIn K (.ref cl_Halted) (.ref cl_Twice) = some false)
    (af_s_Halted_TooMany : PySem.W.subIn K (.ref cl_Halted) (.ref cl_TooMany) = some false)
    (af_s_Halted_RowsError : PySem.W.subIn K (.ref cl_Halted) (.ref cl_RowsError) = some true)
    (af_s_Halted_Absent : PySem.W.subIn K (.ref cl_Halted) (.ref cl_Absent) = some false)
    (af_s_Halted_Barred : PySem.W.subIn K (.ref cl_Halted) (.ref cl_Barred) = some false)
    (af_s_Halted_ValueError : PySem.W.subIn K (.ref cl_Halted) (.type "ValueError") = some true)
    (af_s_Halted_LookupError : PySem.W.subIn K (.ref cl_Halted) (.type "LookupError") = some false)
    (af_s_Halted_RuntimeError : PySem.W.subIn K (.ref cl_Halted) (.type "RuntimeError") = some false)
    (af_s_Halted_ArithmeticError : PySem.W.subIn K (.ref cl_Halted) (.type "ArithmeticError") = some false)
    (af_k_NoBack : PySem.W.keepIn K (.ref cl_NoBack) = true)
    (af_x_NoBack : PySem.W.excIn K cl_NoBack [.type "LookupError", .type "Exception", .type "BaseException", .type "object"] "LookupError.__new__" = true)
    (af_b_NoBack : PySem.W.subIn K (.ref cl_NoBack) (.type "BaseException") = some true)
    (af_eg_NoBack : PySem.W.findIn K (.ref cl_NoBack) "__getattribute__" = some (some (.builtin "BaseException.__getattribute__")))
    (af_ek_NoBack : PySem.W.findIn K (.ref cl_NoBack) "__getattr__" = some none)
    (af_ed_NoBack : PySem.W.hasDictIn K cl_NoBack = true)
    (af_ea_NoBack : PySem.W.findIn K (.ref cl_NoBack) "__class__" = some (some (.builtin "object.__class__")))
    (af_em_NoBack : PySem.W.mroIn K cl_NoBack (.type "object") = some true)
    (af_s_NoBack_NoNumber : PySem.W.subIn K (.ref cl_NoBack) (.ref cl_NoNumber) = some false)
    (af_s_NoBack_NoBack : PySem.W.subIn K (.ref cl_NoBack) (.ref cl_NoBack) = some true)
    (af_s_NoBack_NoPlace : PySem.W.subIn K (.ref cl_NoBack) (.ref cl_NoPlace) = some false)
    (af_s_NoBack_NoOrder : PySem.W.subIn K (.ref cl_NoBack) (.ref cl_NoOrder) = some false)
    (af_s_NoBack_NoPattern : PySem.W.subIn K (.ref cl_NoBack) (.ref cl_NoPattern) = some false)
    (af_s_NoBack_NoLetter : PySem.W.subIn K (.ref cl_NoBack) (.ref cl_NoLetter) = some false)
    (af_s_NoBack_NoTicket : PySem.W.subIn K (.ref cl_NoBack) (.ref cl_NoTicket) = some false)
    (af_s_NoBack_NoSize : PySem.W.subIn K (.ref cl_NoBack) (.ref cl_NoSize) = some false)
    (af_s_NoBack_NoEnd : PySem.W.subIn K (.ref cl_NoBack) (.ref cl_NoEnd) = some false)
    (af_s_NoBack_NoDeed : PySem.W.subIn K (.ref cl_NoBack) (.ref cl_NoDeed) = some false)
    (af_s_NoBack_NoText : PySem.W.subIn K (.ref cl_NoBack) (.ref cl_NoText) = some false)
    (af_s_NoBack_NoRow : PySem.W.subIn K (.ref cl_NoBack) (.ref cl_NoRow) = some false)
    (af_s_NoBack_NoForm : PySem.W.subIn K (.ref cl_NoBack) (.ref cl_NoForm) = some false)
    (af_s_NoBack_Halted : PySem.W.subIn K (.ref cl_NoBack) (.ref cl_Halted) = some false)
    (af_s_NoBack_NoSuch : PySem.W.subIn K (.ref cl_NoBack) (.ref cl_NoSuch) = some false)
    (af_s_NoBack_NoStream : PySem.W.subIn K (.ref cl_NoBack) (.ref cl_NoStream) = some false)
    (af_s_NoBack_Busy : PySem.W.subIn K (.ref cl_NoBack) (.ref cl_Busy) = some false)
    (af_s_NoBack_Taken : PySem.W.subIn K (.ref cl_NoBack) (.ref cl_Taken) = some false)
    (af_s_NoBack_Same : PySem.W.subIn K (.ref cl_NoBack) (.ref cl_Same) = some false)
    (af_s_NoBack_Spent : PySem.W.subIn K (.ref cl_NoBack) (.ref cl_Spent) = some false)
    (af_s_NoBack_Twice : PySem.W.subIn K (.ref cl_NoBack) (.ref cl_Twice) = some false)
    (af_s_NoBack_TooMany : PySem.W.subIn K (.ref cl_NoBack) (.ref cl_TooMany) = some false)
    (af_s_NoBack_RowsError : PySem.W.subIn K (.ref cl_NoBack) (.ref cl_RowsError) = some false)
    (af_s_NoBack_Absent : PySem.W.subIn K (.ref cl_NoBack) (.ref cl_Absent) = some true)
    (af_s_NoBack_Barred : PySem.W.subIn K (.ref cl_NoBack) (.ref cl_Barred) = some false)
    (af_s_NoBack_ValueError : PySem.W.subIn K (.ref cl_NoBack) (.type "ValueError") = some false)
    (af_s_NoBack_LookupError : PySem.W.subIn K (.ref cl_NoBack) (.type "LookupError") = some true)
    (af_s_NoBack_RuntimeError : PySem.W.subIn K (.ref cl_NoBack) (.type "RuntimeError") = some false)
    (af_s_NoBack_ArithmeticError : PySem.W.subIn K (.ref cl_NoBack) (.type "ArithmeticError") = some false)
    (af_k_NoSuch : PySem.W.keepIn K (.ref cl_NoSuch) = true)
    (af_ai_NoSuch : PySem.W.excInitIn K cl_NoSuch [.type "LookupError", .type "Exception", .type "BaseException", .type "object"] "LookupError.__new__" = true)
    (af_ao_NoSuch : PySem.W.excOver K cl_NoSuch [.type "LookupError", .type "Exception", .type "BaseException", .type "object"] = true)
    (af_ed_NoSuch : PySem.W.hasDictIn K cl_NoSuch = true)
    (af_sa_NoSuch : PySem.W.findIn K (.ref cl_NoSuch) "__setattr__" = some (some (.builtin "object.__setattr__")))
    (af_b_NoSuch : PySem.W.subIn K (.ref cl_NoSuch) (.type "BaseException") = some true)
    (af_n_NoSuch_name : PySem.W.findIn K (.ref cl_NoSuch) "name" = some none)
    (af_sg_Absent : PySem.W.specialIn K (.ref cl_Absent) "__getattribute__" = some (some (.builtin "type.__getattribute__")))
    (af_rd_Absent : PySem.W.readsIn K cl_Absent (.type "type") = true)
    (af_fv_Absent : PySem.W.findCls K (.ref cl_Absent) (.type "type") "__init__" = some (.val (.builtin "LookupError.__init__")))
    (af_eg_NoSuch : PySem.W.findIn K (.ref cl_NoSuch) "__getattribute__" = some (some (.builtin "BaseException.__getattribute__")))
    (af_ek_NoSuch : PySem.W.findIn K (.ref cl_NoSuch) "__getattr__" = some none)
    (af_ea_NoSuch : PySem.W.findIn K (.ref cl_NoSuch) "__class__" = some (some (.builtin "object.__class__")))
    (af_em_NoSuch : PySem.W.mroIn K cl_NoSuch (.type "object") = some true)
    (af_s_NoSuch_NoNumber : PySem.W.subIn K (.ref cl_NoSuch) (.ref cl_NoNumber) = some false)
    (af_s_NoSuch_NoSuch : PySem.W.subIn K (.ref cl_NoSuch) (.ref cl_NoSuch) = some true)
    (af_s_NoSuch_NoPlace : PySem.W.subIn K (.ref cl_NoSuch) (.ref cl_NoPlace) = some false)
    (af_s_NoSuch_NoOrder : PySem.W.subIn K (.ref cl_NoSuch) (.ref cl_NoOrder) = some false)
    (af_s_NoSuch_NoPattern : PySem.W.subIn K (.ref cl_NoSuch) (.ref cl_NoPattern) = some false)
    (af_s_NoSuch_NoLetter : PySem.W.subIn K (.ref cl_NoSuch) (.ref cl_NoLetter) = some false)
    (af_s_NoSuch_NoTicket : PySem.W.subIn K (.ref cl_NoSuch) (.ref cl_NoTicket) = some false)
    (af_s_NoSuch_NoSize : PySem.W.subIn K (.ref cl_NoSuch) (.ref cl_NoSize) = some false)
    (af_s_NoSuch_NoEnd : PySem.W.subIn K (.ref cl_NoSuch) (.ref cl_NoEnd) = some false)
    (af_s_NoSuch_NoDeed : PySem.W.subIn K (.ref cl_NoSuch) (.ref cl_NoDeed) = some false)
    (af_s_NoSuch_NoText : PySem.W.subIn K (.ref cl_NoSuch) (.ref cl_NoText) = some false)
    (af_s_NoSuch_NoRow : PySem.W.subIn K (.ref cl_NoSuch) (.ref cl_NoRow) = some false)
    (af_s_NoSuch_NoForm : PySem.W.subIn K (.ref cl_NoSuch) (.ref cl_NoForm) = some false)
    (af_s_NoSuch_Halted : PySem.W.subIn K (.ref cl_NoSuch) (.ref cl_Halted) = some false)
    (af_s_NoSuch_NoBack : PySem.W.subIn K (.ref cl_NoSuch) (.ref cl_NoBack) = some false)
    (af_s_NoSuch_NoStream : PySem.W.subIn K (.ref cl_NoSuch) (.ref cl_NoStream) = some false)
    (af_s_NoSuch_Busy : PySem.W.subIn K (.ref cl_NoSuch) (.ref cl_Busy) = some false)
    (af_s_NoSuch_Taken : PySem.W.subIn K (.ref cl_NoSuch) (.ref cl_Taken) = some false)
    (af_s_NoSuch_Same : PySem.W.subIn K (.ref cl_NoSuch) (.ref cl_Same) = some false)
    (af_s_NoSuch_Spent : PySem.W.subIn K (.ref cl_NoSuch) (.ref cl_Spent) = some false)
    (af_s_NoSuch_Twice : PySem.W.subIn K (.ref cl_NoSuch) (.ref cl_Twice) = some false)
    (af_s_NoSuch_TooMany : PySem.W.subIn K (.ref cl_NoSuch) (.ref cl_TooMany) = some false)
    (af_s_NoSuch_RowsError : PySem.W.subIn K (.ref cl_NoSuch) (.ref cl_RowsError) = some false)
    (af_s_NoSuch_Absent : PySem.W.subIn K (.ref cl_NoSuch) (.ref cl_Absent) = some true)
    (af_s_NoSuch_Barred : PySem.W.subIn K (.ref cl_NoSuch) (.ref cl_Barred) = some false)
    (af_s_NoSuch_ValueError : PySem.W.subIn K (.ref cl_NoSuch) (.type "ValueError") = some false)
    (af_s_NoSuch_LookupError : PySem.W.subIn K (.ref cl_NoSuch) (.type "LookupError") = some true)
    (af_s_NoSuch_RuntimeError : PySem.W.subIn K (.ref cl_NoSuch) (.type "RuntimeError") = some false)
    (af_s_NoSuch_ArithmeticError : PySem.W.subIn K (.ref cl_NoSuch) (.type "ArithmeticError") = some false)
    (af_k_NoStream : PySem.W.keepIn K (.ref cl_NoStream) = true)
    (af_ai_NoStream : PySem.W.excInitIn K cl_NoStream [.type "LookupError", .type "Exception", .type "BaseException", .type "object"] "LookupError.__new__" = true)
    (af_ao_NoStream : PySem.W.excOver K cl_NoStream [.type "LookupError", .type "Exception", .type "BaseException", .type "object"] = true)
    (af_ed_NoStream : PySem.W.hasDictIn K cl_NoStream = true)
    (af_sa_NoStream : PySem.W.findIn K (.ref cl_NoStream) "__setattr__" = some (some (.builtin "object.__setattr__")))
    (af_b_NoStream : PySem.W.subIn K (.ref cl_NoStream) (.type "BaseException") = some true)
    (af_n_NoStream_letter : PySem.W.findIn K (.ref cl_NoStream) "letter" = some none)
    (af_eg_NoStream : PySem.W.findIn K (.ref cl_NoStream) "__getattribute__" = some (some (.builtin "BaseException.__getattribute__")))
    (af_ek_NoStream : PySem.W.findIn K (.ref cl_NoStream) "__getattr__" = some none)
    (af_ea_NoStream : PySem.W.findIn K (.ref cl_NoStream) "__class__" = some (some (.builtin "object.__class__")))
    (af_em_NoStream : PySem.W.mroIn K cl_NoStream (.type "object") = some true)
    (af_s_NoStream_NoNumber : PySem.W.subIn K (.ref cl_NoStream) (.ref cl_NoNumber) = some false)
    (af_s_NoStream_NoStream : PySem.W.subIn K (.ref cl_NoStream) (.ref cl_NoStream) = some true)
    (af_s_NoStream_NoPlace : PySem.W.subIn K (.ref cl_NoStream) (.ref cl_NoPlace) = some false)
    (af_s_NoStream_NoOrder : PySem.W.subIn K (.ref cl_NoStream) (.ref cl_NoOrder) = some false)
    (af_s_NoStream_NoPattern : PySem.W.subIn K (.ref cl_NoStream) (.ref cl_NoPattern) = some false)
    (af_s_NoStream_NoLetter : PySem.W.subIn K (.ref cl_NoStream) (.ref cl_NoLetter) = some false)
    (af_s_NoStream_NoTicket : PySem.W.subIn K (.ref cl_NoStream) (.ref cl_NoTicket) = some false)
    (af_s_NoStream_NoSize : PySem.W.subIn K (.ref cl_NoStream) (.ref cl_NoSize) = some false)
    (af_s_NoStream_NoEnd : PySem.W.subIn K (.ref cl_NoStream) (.ref cl_NoEnd) = some false)
    (af_s_NoStream_NoDeed : PySem.W.subIn K (.ref cl_NoStream) (.ref cl_NoDeed) = some false)
    (af_s_NoStream_NoText : PySem.W.subIn K (.ref cl_NoStream) (.ref cl_NoText) = some false)
    (af_s_NoStream_NoRow : PySem.W.subIn K (.ref cl_NoStream) (.ref cl_NoRow) = some false)
    (af_s_NoStream_NoForm : PySem.W.subIn K (.ref cl_NoStream) (.ref cl_NoForm) = some false)
    (af_s_NoStream_Halted : PySem.W.subIn K (.ref cl_NoStream) (.ref cl_Halted) = some false)
    (af_s_NoStream_NoBack : PySem.W.subIn K (.ref cl_NoStream) (.ref cl_NoBack) = some false)
    (af_s_NoStream_NoSuch : PySem.W.subIn K (.ref cl_NoStream) (.ref cl_NoSuch) = some false)
    (af_s_NoStream_Busy : PySem.W.subIn K (.ref cl_NoStream) (.ref cl_Busy) = some false)
    (af_s_NoStream_Taken : PySem.W.subIn K (.ref cl_NoStream) (.ref cl_Taken) = some false)
    (af_s_NoStream_Same : PySem.W.subIn K (.ref cl_NoStream) (.ref cl_Same) = some false)
    (af_s_NoStream_Spent : PySem.W.subIn K (.ref cl_NoStream) (.ref cl_Spent) = some false)
    (af_s_NoStream_Twice : PySem.W.subIn K (.ref cl_NoStream) (.ref cl_Twice) = some false)
    (af_s_NoStream_TooMany : PySem.W.subIn K (.ref cl_NoStream) (.ref cl_TooMany) = some false)
    (af_s_NoStream_RowsError : PySem.W.subIn K (.ref cl_NoStream) (.ref cl_RowsError) = some false)
    (af_s_NoStream_Absent : PySem.W.subIn K (.ref cl_NoStream) (.ref cl_Absent) = some true)
    (af_s_NoStream_Barred : PySem.W.subIn K (.ref cl_NoStream) (.ref cl_Barred) = some false)
    (af_s_NoStream_ValueError : PySem.W.subIn K (.ref cl_NoStream) (.type "ValueError") = some false)
    (af_s_NoStream_LookupError : PySem.W.subIn K (.ref cl_NoStream) (.type "LookupError") = some true)
    (af_s_NoStream_RuntimeError : PySem.W.subIn K (.ref cl_NoStream) (.type "RuntimeError") = some false)
    (af_s_NoStream_ArithmeticError : PySem.W.subIn K (.ref cl_NoStream) (.type "ArithmeticError") = some false)
    (af_k_Busy : PySem.W.keepIn K (.ref cl_Busy) = true)
    (af_x_Busy : PySem.W.excIn K cl_Busy [.type "RuntimeError", .type "Exception", .type "BaseException", .type "object"] "RuntimeError.__new__" = true)
    (af_b_Busy : PySem.W.subIn K (.ref cl_Busy) (.type "BaseException") = some true)
    (af_eg_Busy : PySem.W.findIn K (.ref cl_Busy) "__getattribute__" = some (some (.builtin "BaseException.__getattribute__")))
    (af_ek_Busy : PySem.W.findIn K (.ref cl_Busy) "__getattr__" = some none)
    (af_ed_Busy : PySem.W.hasDictIn K cl_Busy = true)
    (af_ea_Busy : PySem.W.findIn K (.ref cl_Busy) "__class__" = some (some (.builtin "object.__class__")))
    (af_em_Busy : PySem.W.mroIn K cl_Busy (.type "object") = some true)
    (af_s_Busy_NoNumber : PySem.W.subIn K (.ref cl_Busy) (.ref cl_NoNumber) = some false)
    (af_s_Busy_Busy : PySem.W.subIn K (.ref cl_Busy) (.ref cl_Busy) = some true)
    (af_s_Busy_NoPlace : PySem.W.subIn K (.ref cl_Busy) (.ref cl_NoPlace) = some false)
    (af_s_Busy_NoOrder : PySem.W.subIn K (.ref cl_Busy) (.ref cl_NoOrder) = some false)
    (af_s_Busy_NoPattern : PySem.W.subIn K (.ref cl_Busy) (.ref cl_NoPattern) = some false)
    (af_s_Busy_NoLetter : PySem.W.subIn K (.ref cl_Busy) (.ref cl_NoLetter) = some false)
    (af_s_Busy_NoTicket : PySem.W.subIn K (.ref cl_Busy) (.ref cl_NoTicket) = some false)
    (af_s_Busy_NoSize : PySem.W.subIn K (.ref cl_Busy) (.ref cl_NoSize) = some false)
    (af_s_Busy_NoEnd : PySem.W.subIn K (.ref cl_Busy) (.ref cl_NoEnd) = some false)
    (af_s_Busy_NoDeed : PySem.W.subIn K (.ref cl_Busy) (.ref cl_NoDeed) = some false)
    (af_s_Busy_NoText : PySem.W.subIn K (.ref cl_Busy) (.ref cl_NoText) = some false)
    (af_s_Busy_NoRow : PySem.W.subIn K (.ref cl_Busy) (.ref cl_NoRow) = some false)
    (af_s_Busy_NoForm : PySem.W.subIn K (.ref cl_Busy) (.ref cl_NoForm) = some false)
    (af_s_Busy_Halted : PySem.W.subIn K (.ref cl_Busy) (.ref cl_Halted) = some false)
    (af_s_Busy_NoBack : PySem.W.subIn K (.ref cl_Busy) (.ref cl_NoBack) = some false)
    (af_s_Busy_NoSuch : PySem.W.subIn K (.ref cl_Busy) (.ref cl_NoSuch) = some false)
    (af_s_Busy_NoStream : PySem.W.subIn K (.ref cl_Busy) (.ref cl_NoStream) = some false)
    (af_s_Busy_Taken : PySem.W.subIn K (.ref cl_Busy) (.ref cl_Taken) = some false)
    (af_s_Busy_Same : PySem.W.subIn K (.ref cl_Busy) (.ref cl_Same) = some false)
    (af_s_Busy_Spent : PySem.W.subIn K (.ref cl_Busy) (.ref cl_Spent) = some false)
    (af_s_Busy_Twice : PySem.W.subIn K (.ref cl_Busy) (.ref cl_Twice) = some false)
    (af_s_Busy_TooMany : PySem.W.subIn K (.ref cl_Busy) (.ref cl_TooMany) = some false)
    (af_s_Busy_RowsError : PySem.W.subIn K (.ref cl_Busy) (.ref cl_RowsError) = some false)
    (af_s_Busy_Absent : PySem.W.subIn K (.ref cl_Busy) (.ref cl_Absent) = some false)
    (af_s_Busy_Barred : PySem.W.subIn K (.ref cl_Busy) (.ref cl_Barred) = some true)
    (af_s_Busy_ValueError : PySem.W.subIn K (.ref cl_Busy) (.type "ValueError") = some false)
    (af_s_Busy_LookupError : PySem.W.subIn K (.ref cl_Busy) (.type "LookupError") = some false)
    (af_s_Busy_RuntimeError : PySem.W.subIn K (.ref cl_Busy) (.type "RuntimeError") = some true)
    (af_s_Busy_ArithmeticError : PySem.W.subIn K (.ref cl_Busy) (.type "ArithmeticError") = some false)
    (af_k_Taken : PySem.W.keepIn K (.ref cl_Taken) = true)
    (af_ai_Taken : PySem.W.excInitIn K cl_Taken [.type "RuntimeError", .type "Exception", .type "BaseException", .type "object"] "RuntimeError.__new__" = true)
    (af_ao_Taken : PySem.W.excOver K cl_Taken [.type "RuntimeError", .type "Exception", .type "BaseException", .type "object"] = true)
    (af_ed_Taken : PySem.W.hasDictIn K cl_Taken = true)
    (af_sa_Taken : PySem.W.findIn K (.ref cl_Taken) "__setattr__" = some (some (.builtin "object.__setattr__")))
    (af_b_Taken : PySem.W.subIn K (.ref cl_Taken) (.type "BaseException") = some true)
    (af_n_Taken_name : PySem.W.findIn K (.ref cl_Taken) "name" = some none)
    (af_sg_Barred : PySem.W.specialIn K (.ref cl_Barred) "__getattribute__" = some (some (.builtin "type.__getattribute__")))
    (af_rd_Barred : PySem.W.readsIn K cl_Barred (.type "type") = true)
    (af_fv_Barred : PySem.W.findCls K (.ref cl_Barred) (.type "type") "__init__" = some (.val (.builtin "RuntimeError.__init__")))
    (af_eg_Taken : PySem.W.findIn K (.ref cl_Taken) "__getattribute__" = some (some (.builtin "BaseException.__getattribute__")))
    (af_ek_Taken : PySem.W.findIn K (.ref cl_Taken) "__getattr__" = some none)
    (af_ea_Taken : PySem.W.findIn K (.ref cl_Taken) "__class__" = some (some (.builtin "object.__class__")))
    (af_em_Taken : PySem.W.mroIn K cl_Taken (.type "object") = some true)
    (af_s_Taken_NoNumber : PySem.W.subIn K (.ref cl_Taken) (.ref cl_NoNumber) = some false)
    (af_s_Taken_Taken : PySem.W.subIn K (.ref cl_Taken) (.ref cl_Taken) = some true)
    (af_s_Taken_NoPlace : PySem.W.subIn K (.ref cl_Taken) (.ref cl_NoPlace) = some false)
    (af_s_Taken_NoOrder : PySem.W.subIn K (.ref cl_Taken) (.ref cl_NoOrder) = some false)
    (af_s_Taken_NoPattern : PySem.W.subIn K (.ref cl_Taken) (.ref cl_NoPattern) = some false)
    (af_s_Taken_NoLetter : PySem.W.subIn K (.ref cl_Taken) (.ref cl_NoLetter) = some false)
    (af_s_Taken_NoTicket : PySem.W.subIn K (.ref cl_Taken) (.ref cl_NoTicket) = some false)
    (af_s_Taken_NoSize : PySem.W.subIn K (.ref cl_Taken) (.ref cl_NoSize) = some false)
    (af_s_Taken_NoEnd : PySem.W.subIn K (.ref cl_Taken) (.ref cl_NoEnd) = some false)
    (af_s_Taken_NoDeed : PySem.W.subIn K (.ref cl_Taken) (.ref cl_NoDeed) = some false)
    (af_s_Taken_NoText : PySem.W.subIn K (.ref cl_Taken) (.ref cl_NoText) = some false)
    (af_s_Taken_NoRow : PySem.W.subIn K (.ref cl_Taken) (.ref cl_NoRow) = some false)
    (af_s_Taken_NoForm : PySem.W.subIn K (.ref cl_Taken) (.ref cl_NoForm) = some false)
    (af_s_Taken_Halted : PySem.W.subIn K (.ref cl_Taken) (.ref cl_Halted) = some false)
    (af_s_Taken_NoBack : PySem.W.subIn K (.ref cl_Taken) (.ref cl_NoBack) = some false)
    (af_s_Taken_NoSuch : PySem.W.subIn K (.ref cl_Taken) (.ref cl_NoSuch) = some false)
    (af_s_Taken_NoStream : PySem.W.subIn K (.ref cl_Taken) (.ref cl_NoStream) = some false)
    (af_s_Taken_Busy : PySem.W.subIn K (.ref cl_Taken) (.ref cl_Busy) = some false)
    (af_s_Taken_Same : PySem.W.subIn K (.ref cl_Taken) (.ref cl_Same) = some false)
    (af_s_Taken_Spent : PySem.W.subIn K (.ref cl_Taken) (.ref cl_Spent) = some false)
    (af_s_Taken_Twice : PySem.W.subIn K (.ref cl_Taken) (.ref cl_Twice) = some false)
    (af_s_Taken_TooMany : PySem.W.subIn K (.ref cl_Taken) (.ref cl_TooMany) = some false)
    (af_s_Taken_RowsError : PySem.W.subIn K (.ref cl_Taken) (.ref cl_RowsError) = some false)
    (af_s_Taken_Absent : PySem.W.subIn K (.ref cl_Taken) (.ref cl_Absent) = some false)
    (af_s_Taken_Barred : PySem.W.subIn K (.ref cl_Taken) (.ref cl_Barred) = some true)
    (af_s_Taken_ValueError : PySem.W.subIn K (.ref cl_Taken) (.type "ValueError") = some false)
    (af_s_Taken_LookupError : PySem.W.subIn K (.ref cl_Taken) (.type "LookupError") = some false)
    (af_s_Taken_RuntimeError : PySem.W.subIn K (.ref cl_Taken) (.type "RuntimeError") = some true)
    (af_s_Taken_ArithmeticError : PySem.W.subIn K (.ref cl_Taken) (.type "ArithmeticError") = some false)
    (af_k_Same : PySem.W.keepIn K (.ref cl_Same) = true)
    (af_ai_Same : PySem.W.excInitIn K cl_Same [.type "RuntimeError", .type "Exception", .type "BaseException", .type "object"] "RuntimeError.__new__" = true)
    (af_ao_Same : PySem.W.excOver K cl_Same [.type "RuntimeError", .type "Exception", .type "BaseException", .type "object"] = true)
    (af_ed_Same : PySem.W.hasDictIn K cl_Same = true)
    (af_sa_Same : PySem.W.findIn K (.ref cl_Same) "__setattr__" = some (some (.builtin "object.__setattr__")))
    (af_b_Same : PySem.W.subIn K (.ref cl_Same) (.type "BaseException") = some true)
    (af_n_Same_name : PySem.W.findIn K (.ref cl_Same) "name" = some none)
    (af_eg_Same : PySem.W.findIn K (.ref cl_Same) "__getattribute__" = some (some (.builtin "BaseException.__getattribute__")))
    (af_ek_Same : PySem.W.findIn K (.ref cl_Same) "__getattr__" = some none)
    (af_ea_Same : PySem.W.findIn K (.ref cl_Same) "__class__" = some (some (.builtin "object.__class__")))
    (af_em_Same : PySem.W.mroIn K cl_Same (.type "object") = some true)
    (af_s_Same_NoNumber : PySem.W.subIn K (.ref cl_Same) (.ref cl_NoNumber) = some false)
    (af_s_Same_Same : PySem.W.subIn K (.ref cl_Same) (.ref cl_Same) = some true)
    (af_s_Same_NoPlace : PySem.W.subIn K (.ref cl_Same) (.ref cl_NoPlace) = some false)
    (af_s_Same_NoOrder : PySem.W.subIn K (.ref cl_Same) (.ref cl_NoOrder) = some false)
    (af_s_Same_NoPattern : PySem.W.subIn K (.ref cl_Same) (.ref cl_NoPattern) = some false)
    (af_s_Same_NoLetter : PySem.W.subIn K (.ref cl_Same) (.ref cl_NoLetter) = some false)
    (af_s_Same_NoTicket : PySem.W.subIn K (.ref cl_Same) (.ref cl_NoTicket) = some false)
    (af_s_Same_NoSize : PySem.W.subIn K (.ref cl_Same) (.ref cl_NoSize) = some false)
    (af_s_Same_NoEnd : PySem.W.subIn K (.ref cl_Same) (.ref cl_NoEnd) = some false)
    (af_s_Same_NoDeed : PySem.W.subIn K (.ref cl_Same) (.ref cl_NoDeed) = some false)
    (af_s_Same_NoText : PySem.W.subIn K (.ref cl_Same) (.ref cl_NoText) = some false)
    (af_s_Same_NoRow : PySem.W.subIn K (.ref cl_Same) (.ref cl_NoRow) = some false)
    (af_s_Same_NoForm : PySem.W.subIn K (.ref cl_Same) (.ref cl_NoForm) = some false)
    (af_s_Same_Halted : PySem.W.subIn K (.ref cl_Same) (.ref cl_Halted) = some false)
    (af_s_Same_NoBack : PySem.W.subIn K (.ref cl_Same) (.ref cl_NoBack) = some false)
    (af_s_Same_NoSuch : PySem.W.subIn K (.ref cl_Same) (.ref cl_NoSuch) = some false)
    (af_s_Same_NoStream : PySem.W.subIn K (.ref cl_Same) (.ref cl_NoStream) = some false)
    (af_s_Same_Busy : PySem.W.subIn K (.ref cl_Same) (.ref cl_Busy) = some false)
    (af_s_Same_Taken : PySem.W.subIn K (.ref cl_Same) (.ref cl_Taken) = some false)
    (af_s_Same_Spent : PySem.W.subIn K (.ref cl_Same) (.ref cl_Spent) = some false)
    (af_s_Same_Twice : PySem.W.subIn K (.ref cl_Same) (.ref cl_Twice) = some false)
    (af_s_Same_TooMany : PySem.W.subIn K (.ref cl_Same) (.ref cl_TooMany) = some false)
    (af_s_Same_RowsError : PySem.W.subIn K (.ref cl_Same) (.ref cl_RowsError) = some false)
    (af_s_Same_Absent : PySem.W.subIn K (.ref cl_Same) (.ref cl_Absent) = some false)
    (af_s_Same_Barred : PySem.W.subIn K (.ref cl_Same) (.ref cl_Barred) = some true)
    (af_s_Same_ValueError : PySem.W.subIn K (.ref cl_Same) (.type "ValueError") = some false)
    (af_s_Same_LookupError : PySem.W.subIn K (.ref cl_Same) (.type "LookupError") = some false)
    (af_s_Same_RuntimeError : PySem.W.subIn K (.ref cl_Same) (.type "RuntimeError") = some true)
    (af_s_Same_ArithmeticError : PySem.W.subIn K (.ref cl_Same) (.type "ArithmeticError") = some false)
    (af_k_Spent : PySem.W.keepIn K (.ref cl_Spent) = true)
    (af_ai_Spent : PySem.W.excInitIn K cl_Spent [.type "RuntimeError", .type "Exception", .type "BaseException", .type "object"] "RuntimeError.__new__" = true)
    (af_ao_Spent : PySem.W.excOver K cl_Spent [.type "RuntimeError", .type "Exception", .type "BaseException", .type "object"] = true)
    (af_ed_Spent : PySem.W.hasDictIn K cl_Spent = true)
    (af_sa_Spent : PySem.W.findIn K (.ref cl_Spent) "__setattr__" = some (some (.builtin "object.__setattr__")))
    (af_b_Spent : PySem.W.subIn K (.ref cl_Spent) (.type "BaseException") = some true)
    (af_n_Spent_letter : PySem.W.findIn K (.ref cl_Spent) "letter" = some none)
    (af_eg_Spent : PySem.W.findIn K (.ref cl_Spent) "__getattribute__" = some (some (.builtin "BaseException.__getattribute__")))
    (af_ek_Spent : PySem.W.findIn K (.ref cl_Spent) "__getattr__" = some none)
    (af_ea_Spent : PySem.W.findIn K (.ref cl_Spent) "__class__" = some (some (.builtin "object.__class__")))
    (af_em_Spent : PySem.W.mroIn K cl_Spent (.type "object") = some true)
    (af_s_Spent_NoNumber : PySem.W.subIn K (.ref cl_Spent) (.ref cl_NoNumber) = some false)
    (af_s_Spent_Spent : PySem.W.subIn K (.ref cl_Spent) (.ref cl_Spent) = some true)
    (af_s_Spent_NoPlace : PySem.W.subIn K (.ref cl_Spent) (.ref cl_NoPlace) = some false)
    (af_s_Spent_NoOrder : PySem.W.subIn K (.ref cl_Spent) (.ref cl_NoOrder) = some false)
    (af_s_Spent_NoPattern : PySem.W.subIn K (.ref cl_Spent) (.ref cl_NoPattern) = some false)
    (af_s_Spent_NoLetter : PySem.W.subIn K (.ref cl_Spent) (.ref cl_NoLetter) = some false)
    (af_s_Spent_NoTicket : PySem.W.subIn K (.ref cl_Spent) (.ref cl_NoTicket) = some false)
    (af_s_Spent_NoSize : PySem.W.subIn K (.ref cl_Spent) (.ref cl_NoSize) = some false)
    (af_s_Spent_NoEnd : PySem.W.subIn K (.ref cl_Spent) (.ref cl_NoEnd) = some false)
    (af_s_Spent_NoDeed : PySem.W.subIn K (.ref cl_Spent) (.ref cl_NoDeed) = some false)
    (af_s_Spent_NoText : PySem.W.subIn K (.ref cl_Spent) (.ref cl_NoText) = some false)
    (af_s_Spent_NoRow : PySem.W.subIn K (.ref cl_Spent) (.ref cl_NoRow) = some false)
    (af_s_Spent_NoForm : PySem.W.subIn K (.ref cl_Spent) (.ref cl_NoForm) = some false)
    (af_s_Spent_Halted : PySem.W.subIn K (.ref cl_Spent) (.ref cl_Halted) = some false)
    (af_s_Spent_NoBack : PySem.W.subIn K (.ref cl_Spent) (.ref cl_NoBack) = some false)
    (af_s_Spent_NoSuch : PySem.W.subIn K (.ref cl_Spent) (.ref cl_NoSuch) = some false)
    (af_s_Spent_NoStream : PySem.W.subIn K (.ref cl_Spent) (.ref cl_NoStream) = some false)
    (af_s_Spent_Busy : PySem.W.subIn K (.ref cl_Spent) (.ref cl_Busy) = some false)
    (af_s_Spent_Taken : PySem.W.subIn K (.ref cl_Spent) (.ref cl_Taken) = some false)
    (af_s_Spent_Same : PySem.W.subIn K (.ref cl_Spent) (.ref cl_Same) = some false)
    (af_s_Spent_Twice : PySem.W.subIn K (.ref cl_Spent) (.ref cl_Twice) = some false)
    (af_s_Spent_TooMany : PySem.W.subIn K (.ref cl_Spent) (.ref cl_TooMany) = some false)
    (af_s_Spent_RowsError : PySem.W.subIn K (.ref cl_Spent) (.ref cl_RowsError) = some false)
    (af_s_Spent_Absent : PySem.W.subIn K (.ref cl_Spent) (.ref cl_Absent) = some false)
    (af_s_Spent_Barred : PySem.W.subIn K (.ref cl_Spent) (.ref cl_Barred) = some true)
    (af_s_Spent_ValueError : PySem.W.subIn K (.ref cl_Spent) (.type "ValueError") = some false)
    (af_s_Spent_LookupError : PySem.W.subIn K (.ref cl_Spent) (.type "LookupError") = some false)
    (af_s_Spent_RuntimeError : PySem.W.subIn K (.ref cl_Spent) (.type "RuntimeError") = some true)
    (af_s_Spent_ArithmeticError : PySem.W.subIn K (.ref cl_Spent) (.type "ArithmeticError") = some false)
    (af_k_Twice : PySem.W.keepIn K (.ref cl_Twice) = true)
    (af_ai_Twice : PySem.W.excInitIn K cl_Twice [.type "RuntimeError", .type "Exception", .type "BaseException", .type "object"] "RuntimeError.__new__" = true)
    (af_ao_Twice : PySem.W.excOver K cl_Twice [.type "RuntimeError", .type "Exception", .type "BaseException", .type "object"] = true)
    (af_ed_Twice : PySem.W.hasDictIn K cl_Twice = true)
    (af_sa_Twice : PySem.W.findIn K (.ref cl_Twice) "__setattr__" = some (some (.builtin "object.__setattr__")))
    (af_b_Twice : PySem.W.subIn K (.ref cl_Twice) (.type "BaseException") = some true)
    (af_n_Twice_ticket : PySem.W.findIn K (.ref cl_Twice) "ticket" = some none)
    (af_eg_Twice : PySem.W.findIn K (.ref cl_Twice) "__getattribute__" = some (some (.builtin "BaseException.__getattribute__")))
    (af_ek_Twice : PySem.W.findIn K (.ref cl_Twice) "__getattr__" = some none)
    (af_ea_Twice : PySem.W.findIn K (.ref cl_Twice) "__class__" = some (some (.builtin "object.__class__")))
    (af_em_Twice : PySem.W.mroIn K cl_Twice (.type "object") = some true)
    (af_s_Twice_NoNumber : PySem.W.subIn K (.ref cl_Twice) (.ref cl_NoNumber) = some false)
    (af_s_Twice_Twice : PySem.W.subIn K (.ref cl_Twice) (.ref cl_Twice) = some true)
    (af_s_Twice_NoPlace : PySem.W.subIn K (.ref cl_Twice) (.ref cl_NoPlace) = some false)
    (af_s_Twice_NoOrder : PySem.W.subIn K (.ref cl_Twice) (.ref cl_NoOrder) = some false)
    (af_s_Twice_NoPattern : PySem.W.subIn K (.ref cl_Twice) (.ref cl_NoPattern) = some false)
    (af_s_Twice_NoLetter : PySem.W.subIn K (.ref cl_Twice) (.ref cl_NoLetter) = some false)
    (af_s_Twice_NoTicket : PySem.W.subIn K (.ref cl_Twice) (.ref cl_NoTicket) = some false)
    (af_s_Twice_NoSize : PySem.W.subIn K (.ref cl_Twice) (.ref cl_NoSize) = some false)
    (af_s_Twice_NoEnd : PySem.W.subIn K (.ref cl_Twice) (.ref cl_NoEnd) = some false)
    (af_s_Twice_NoDeed : PySem.W.subIn K (.ref cl_Twice) (.ref cl_NoDeed) = some false)
    (af_s_Twice_NoText : PySem.W.subIn K (.ref cl_Twice) (.ref cl_NoText) = some false)
    (af_s_Twice_NoRow : PySem.W.subIn K (.ref cl_Twice) (.ref cl_NoRow) = some false)
    (af_s_Twice_NoForm : PySem.W.subIn K (.ref cl_Twice) (.ref cl_NoForm) = some false)
    (af_s_Twice_Halted : PySem.W.subIn K (.ref cl_Twice) (.ref cl_Halted) = some false)
    (af_s_Twice_NoBack : PySem.W.subIn K (.ref cl_Twice) (.ref cl_NoBack) = some false)
    (af_s_Twice_NoSuch : PySem.W.subIn K (.ref cl_Twice) (.ref cl_NoSuch) = some false)
    (af_s_Twice_NoStream : PySem.W.subIn K (.ref cl_Twice) (.ref cl_NoStream) = some false)
    (af_s_Twice_Busy : PySem.W.subIn K (.ref cl_Twice) (.ref cl_Busy) = some false)
    (af_s_Twice_Taken : PySem.W.subIn K (.ref cl_Twice) (.ref cl_Taken) = some false)
    (af_s_Twice_Same : PySem.W.subIn K (.ref cl_Twice) (.ref cl_Same) = some false)
    (af_s_Twice_Spent : PySem.W.subIn K (.ref cl_Twice) (.ref cl_Spent) = some false)
    (af_s_Twice_TooMany : PySem.W.subIn K (.ref cl_Twice) (.ref cl_TooMany) = some false)
    (af_s_Twice_RowsError : PySem.W.subIn K (.ref cl_Twice) (.ref cl_RowsError) = some false)
    (af_s_Twice_Absent : PySem.W.subIn K (.ref cl_Twice) (.ref cl_Absent) = some false)
    (af_s_Twice_Barred : PySem.W.subIn K (.ref cl_Twice) (.ref cl_Barred) = some true)
    (af_s_Twice_ValueError : PySem.W.subIn K (.ref cl_Twice) (.type "ValueError") = some false)
    (af_s_Twice_LookupError : PySem.W.subIn K (.ref cl_Twice) (.type "LookupError") = some false)
    (af_s_Twice_RuntimeError : PySem.W.subIn K (.ref cl_Twice) (.type "RuntimeError") = some true)
    (af_s_Twice_ArithmeticError : PySem.W.subIn K (.ref cl_Twice) (.type "ArithmeticError") = some false)
    (af_k_TooMany : PySem.W.keepIn K (.ref cl_TooMany) = true)
    (af_ai_TooMany : PySem.W.excInitIn K cl_TooMany [.type "ArithmeticError", .type "Exception", .type "BaseException", .type "object"] "ArithmeticError.__new__" = true)
    (af_ao_TooMany : PySem.W.excOver K cl_TooMany [.type "ArithmeticError", .type "Exception", .type "BaseException", .type "object"] = true)
    (af_ed_TooMany : PySem.W.hasDictIn K cl_TooMany = true)
    (af_sa_TooMany : PySem.W.findIn K (.ref cl_TooMany) "__setattr__" = some (some (.builtin "object.__setattr__")))
    (af_b_TooMany : PySem.W.subIn K (.ref cl_TooMany) (.type "BaseException") = some true)
    (af_n_TooMany_tickets : PySem.W.findIn K (.ref cl_TooMany) "tickets" = some none)
    (af_n_TooMany_lines : PySem.W.findIn K (.ref cl_TooMany) "lines" = some none)
    (af_fv_ArithmeticError : PySem.W.findCls K (.type "ArithmeticError") (.type "type") "__init__" = some (.val (.builtin "ArithmeticError.__init__")))
    (af_eg_TooMany : PySem.W.findIn K (.ref cl_TooMany) "__getattribute__" = some (some (.builtin "BaseException.__getattribute__")))
    (af_ek_TooMany : PySem.W.findIn K (.ref cl_TooMany) "__getattr__" = some none)
    (af_ea_TooMany : PySem.W.findIn K (.ref cl_TooMany) "__class__" = some (some (.builtin "object.__class__")))
    (af_em_TooMany : PySem.W.mroIn K cl_TooMany (.type "object") = some true)
    (af_s_TooMany_NoNumber : PySem.W.subIn K (.ref cl_TooMany) (.ref cl_NoNumber) = some false)
    (af_s_TooMany_TooMany : PySem.W.subIn K (.ref cl_TooMany) (.ref cl_TooMany) = some true)
    (af_s_TooMany_NoPlace : PySem.W.subIn K (.ref cl_TooMany) (.ref cl_NoPlace) = some false)
    (af_s_TooMany_NoOrder : PySem.W.subIn K (.ref cl_TooMany) (.ref cl_NoOrder) = some false)
    (af_s_TooMany_NoPattern : PySem.W.subIn K (.ref cl_TooMany) (.ref cl_NoPattern) = some false)
    (af_s_TooMany_NoLetter : PySem.W.subIn K (.ref cl_TooMany) (.ref cl_NoLetter) = some false)
    (af_s_TooMany_NoTicket : PySem.W.subIn K (.ref cl_TooMany) (.ref cl_NoTicket) = some false)
    (af_s_TooMany_NoSize : PySem.W.subIn K (.ref cl_TooMany) (.ref cl_NoSize) = some false)
    (af_s_TooMany_NoEnd : PySem.W.subIn K (.ref cl_TooMany) (.ref cl_NoEnd) = some false)
    (af_s_TooMany_NoDeed : PySem.W.subIn K (.ref cl_TooMany) (.ref cl_NoDeed) = some false)
    (af_s_TooMany_NoText : PySem.W.subIn K (.ref cl_TooMany) (.ref cl_NoText) = some false)
    (af_s_TooMany_NoRow : PySem.W.subIn K (.ref cl_TooMany) (.ref cl_NoRow) = some false)
    (af_s_TooMany_NoForm : PySem.W.subIn K (.ref cl_TooMany) (.ref cl_NoForm) = some false)
    (af_s_TooMany_Halted : PySem.W.subIn K (.ref cl_TooMany) (.ref cl_Halted) = some false)
    (af_s_TooMany_NoBack : PySem.W.subIn K (.ref cl_TooMany) (.ref cl_NoBack) = some false)
    (af_s_TooMany_NoSuch : PySem.W.subIn K (.ref cl_TooMany) (.ref cl_NoSuch) = some false)
    (af_s_TooMany_NoStream : PySem.W.subIn K (.ref cl_TooMany) (.ref cl_NoStream) = some false)
    (af_s_TooMany_Busy : PySem.W.subIn K (.ref cl_TooMany) (.ref cl_Busy) = some false)
    (af_s_TooMany_Taken : PySem.W.subIn K (.ref cl_TooMany) (.ref cl_Taken) = some false)
    (af_s_TooMany_Same : PySem.W.subIn K (.ref cl_TooMany) (.ref cl_Same) = some false)
    (af_s_TooMany_Spent : PySem.W.subIn K (.ref cl_TooMany) (.ref cl_Spent) = some false)
    (af_s_TooMany_Twice : PySem.W.subIn K (.ref cl_TooMany) (.ref cl_Twice) = some false)
    (af_s_TooMany_RowsError : PySem.W.subIn K (.ref cl_TooMany) (.ref cl_RowsError) = some false)
    (af_s_TooMany_Absent : PySem.W.subIn K (.ref cl_TooMany) (.ref cl_Absent) = some false)
    (af_s_TooMany_Barred : PySem.W.subIn K (.ref cl_TooMany) (.ref cl_Barred) = some false)
    (af_s_TooMany_ValueError : PySem.W.subIn K (.ref cl_TooMany) (.type "ValueError") = some false)
    (af_s_TooMany_LookupError : PySem.W.subIn K (.ref cl_TooMany) (.type "LookupError") = some false)
    (af_s_TooMany_RuntimeError : PySem.W.subIn K (.ref cl_TooMany) (.type "RuntimeError") = some false)
    (af_s_TooMany_ArithmeticError : PySem.W.subIn K (.ref cl_TooMany) (.type "ArithmeticError") = some true)
    (af_en_ : PySem.W.specialIn K (.builtin "object.__class__") "__get__" = some (some (.builtin "getset_descriptor.__get__")))
    (af_et_ : PySem.W.takesIn K (.builtin "object.__class__") = some true)
    (z_len : PySem.W.nsIn K mainGlobals "len" = some none)
    (z_abs : PySem.W.nsIn K mainGlobals "abs" = some none)
    (z_max : PySem.W.nsIn K mainGlobals "max" = some none)
    (z_divmod : PySem.W.nsIn K mainGlobals "divmod" = some none)
    (z_isinstance : PySem.W.nsIn K mainGlobals "isinstance" = some none)
    (z_ValueError : PySem.W.nsIn K mainGlobals "ValueError" = some none)
    (z_LookupError : PySem.W.nsIn K mainGlobals "LookupError" = some none)
    (z_RuntimeError : PySem.W.nsIn K mainGlobals "RuntimeError" = some none)
    (z_ArithmeticError : PySem.W.nsIn K mainGlobals "ArithmeticError" = some none)
    (z_enumerate : PySem.W.nsIn K mainGlobals "enumerate" = some none)
    (z_range : PySem.W.nsIn K mainGlobals "range" = some none)
    (z_int : PySem.W.nsIn K mainGlobals "int" = some none) :
    ∃ fd : FuncData, (∀ (s : Shared) (v : Value), BindsTo s fd ⟨[v], []⟩ [("_law_script", v)]) ∧ ∃ G : Tb, G.K = K ∧ ∀ base : Heap, K.In base → base.Ns mainGlobals mg → FnG P w K mg base 3 fa fd ["_law_script"] (spP G XRx 1 P_law) := by
  have bn : Bn mg := ⟨PySem.W.mg_none_of X G z_len, PySem.W.mg_none_of X G z_abs, PySem.W.mg_none_of X G z_max, PySem.W.mg_none_of X G z_divmod, PySem.W.mg_none_of X G z_isinstance, PySem.W.mg_none_of X G z_ValueError, PySem.W.mg_none_of X G z_LookupError, PySem.W.mg_none_of X G z_RuntimeError, PySem.W.mg_none_of X G z_ArithmeticError, PySem.W.mg_none_of X G z_enumerate, PySem.W.mg_none_of X G z_range, PySem.W.mg_none_of X G z_int⟩
  have cn : Cn mg := ⟨trivial⟩
  have ce : Ce K mg ⟨0, cl_NoNumber, cl_NoPlace, cl_NoOrder, cl_NoPattern, cl_NoLetter, cl_NoTicket, cl_NoSize, cl_NoEnd, cl_NoDeed, cl_NoText, cl_NoRow, cl_NoForm, cl_Halted, cl_NoBack, cl_NoSuch, cl_NoStream, cl_Busy, cl_Taken, cl_Same, cl_Spent, cl_Twice, cl_TooMany, cl_RowsError, cl_Absent, cl_Barred⟩ := ⟨trivial, PySem.W.mg_of X G ag_NoNumber, PySem.W.mg_of X G ag_NoPlace, PySem.W.mg_of X G ag_NoOrder, PySem.W.mg_of X G ag_NoPattern, PySem.W.mg_of X G ag_NoLetter, PySem.W.mg_of X G ag_NoTicket, PySem.W.mg_of X G ag_NoSize, PySem.W.mg_of X G ag_NoEnd, PySem.W.mg_of X G ag_NoDeed, PySem.W.mg_of X G ag_NoText, PySem.W.mg_of X G ag_NoRow, PySem.W.mg_of X G ag_NoForm, PySem.W.mg_of X G ag_Halted, PySem.W.mg_of X G ag_NoBack, PySem.W.mg_of X G ag_NoSuch, PySem.W.mg_of X G ag_NoStream, PySem.W.mg_of X G ag_Busy, PySem.W.mg_of X G ag_Taken, PySem.W.mg_of X G ag_Same, PySem.W.mg_of X G ag_Spent, PySem.W.mg_of X G ag_Twice, PySem.W.mg_of X G ag_TooMany, PySem.W.mg_of X G ag_RowsError, PySem.W.mg_of X G ag_Absent, PySem.W.mg_of X G ag_Barred, af_k_NoNumber, af_x_NoNumber, af_b_NoNumber, af_t_NoNumber, af_eg_NoNumber, af_ek_NoNumber, af_ed_NoNumber, af_ea_NoNumber, af_em_NoNumber, (kit_own af_i_NoNumber af_t_NoNumber af_s_NoNumber_NoNumber af_s_NoNumber_NoNumber), (kit_own af_i_NoPlace af_t_NoPlace af_s_NoNumber_NoPlace af_s_NoNumber_NoNumber), (kit_own af_i_NoOrder af_t_NoOrder af_s_NoNumber_NoOrder af_s_NoNumber_NoNumber), (kit_own af_i_NoPattern af_t_NoPattern af_s_NoNumber_NoPattern af_s_NoNumber_NoNumber), (kit_own af_i_NoLetter af_t_NoLetter af_s_NoNumber_NoLetter af_s_NoNumber_NoNumber), (kit_own af_i_NoTicket af_t_NoTicket af_s_NoNumber_NoTicket af_s_NoNumber_NoNumber), (kit_own af_i_NoSize af_t_NoSize af_s_NoNumber_NoSize af_s_NoNumber_NoNumber), (kit_own af_i_NoEnd af_t_NoEnd af_s_NoNumber_NoEnd af_s_NoNumber_NoNumber), (kit_own af_i_NoDeed af_t_NoDeed af_s_NoNumber_NoDeed af_s_NoNumber_NoNumber), (kit_own af_i_NoText af_t_NoText af_s_NoNumber_NoText af_s_NoNumber_NoNumber), (kit_own af_i_NoRow af_t_NoRow af_s_NoNumber_NoRow af_s_NoNumber_NoNumber), (kit_own af_i_NoForm af_t_NoForm af_s_NoNumber_NoForm af_s_NoNumber_NoNumber), (kit_own af_i_Halted af_t_Halted af_s_NoNumber_Halted af_s_NoNumber_NoNumber), (kit_own af_i_NoBack af_t_NoBack af_s_NoNumber_NoBack af_s_NoNumber_NoNumber), (kit_own af_i_NoSuch af_t_NoSuch af_s_NoNumber_NoSuch af_s_NoNumber_NoNumber), (kit_own af_i_NoStream af_t_NoStream af_s_NoNumber_NoStream af_s_NoNumber_NoNumber), (kit_own af_i_Busy af_t_Busy af_s_NoNumber_Busy af_s_NoNumber_NoNumber), (kit_own af_i_Taken af_t_Taken af_s_NoNumber_Taken af_s_NoNumber_NoNumber), (kit_own af_i_Same af_t_Same af_s_NoNumber_Same af_s_NoNumber_NoNumber), (kit_own af_i_Spent af_t_Spent af_s_NoNumber_Spent af_s_NoNumber_NoNumber), (kit_own af_i_Twice af_t_Twice af_s_NoNumber_Twice af_s_NoNumber_NoNumber), (kit_own af_i_TooMany af_t_TooMany af_s_NoNumber_TooMany af_s_NoNumber_NoNumber), (kit_own af_i_RowsError af_t_RowsError af_s_NoNumber_RowsError af_s_NoNumber_NoNumber), (kit_own af_i_Absent af_t_Absent af_s_NoNumber_Absent af_s_NoNumber_NoNumber), (kit_own af_i_Barred af_t_Barred af_s_NoNumber_Barred af_s_NoNumber_NoNumber), (kit_blt (by decide +kernel) af_s_NoNumber_ValueError), (kit_blt (by decide +kernel) af_s_NoNumber_LookupError), (kit_blt (by decide +kernel) af_s_NoNumber_RuntimeError), (kit_blt (by decide +kernel) af_s_NoNumber_ArithmeticError), af_k_NoPlace, af_x_NoPlace, af_b_NoPlace, af_t_NoPlace, af_eg_NoPlace, af_ek_NoPlace, af_ed_NoPlace, af_ea_NoPlace, af_em_NoPlace, (kit_own af_i_NoNumber af_t_NoNumber af_s_NoPlace_NoNumber af_s_NoPlace_NoPlace), (kit_own af_i_NoPlace af_t_NoPlace af_s_NoPlace_NoPlace af_s_NoPlace_NoPlace), (kit_own af_i_NoOrder af_t_NoOrder af_s_NoPlace_NoOrder af_s_NoPlace_NoPlace), (kit_own af_i_NoPattern af_t_NoPattern af_s_NoPlace_NoPattern af_s_NoPlace_NoPlace), (kit_own af_i_NoLetter af_t_NoLetter af_s_NoPlace_NoLetter af_s_NoPlace_NoPlace), (kit_own af_i_NoTicket af_t_NoTicket af_s_NoPlace_NoTicket af_s_NoPlace_NoPlace), (kit_own af_i_NoSize af_t_NoSize af_s_NoPlace_NoSize af_s_NoPlace_NoPlace), (kit_own af_i_NoEnd af_t_NoEnd af_s_NoPlace_NoEnd af_s_NoPlace_NoPlace), (kit_own af_i_NoDeed af_t_NoDeed af_s_NoPlace_NoDeed af_s_NoPlace_NoPlace), (kit_own af_i_NoText af_t_NoText af_s_NoPlace_NoText af_s_NoPlace_NoPlace), (kit_own af_i_NoRow af_t_NoRow af_s_NoPlace_NoRow af_s_NoPlace_NoPlace), (kit_own af_i_NoForm af_t_NoForm af_s_NoPlace_NoForm af_s_NoPlace_NoPlace), (kit_own af_i_Halted af_t_Halted af_s_NoPlace_Halted af_s_NoPlace_NoPlace), (kit_own af_i_NoBack af_t_NoBack af_s_NoPlace_NoBack af_s_NoPlace_NoPlace), (kit_own af_i_NoSuch af_t_NoSuch af_s_NoPlace_NoSuch af_s_NoPlace_NoPlace), (kit_own af_i_NoStream af_t_NoStream af_s_NoPlace_NoStream af_s_NoPlace_NoPlace), (kit_own af_i_Busy af_t_Busy af_s_NoPlace_Busy af_s_NoPlace_NoPlace), (kit_own af_i_Taken af_t_Taken af_s_NoPlace_Taken af_s_NoPlace_NoPlace), (kit_own af_i_Same af_t_Same af_s_NoPlace_Same af_s_NoPlace_NoPlace), (kit_own af_i_Spent af_t_Spent af_s_NoPlace_Spent af_s_NoPlace_NoPlace), (kit_own af_i_Twice af_t_Twice af_s_NoPlace_Twice af_s_NoPlace_NoPlace), (kit_own af_i_TooMany af_t_TooMany af_s_NoPlace_TooMany af_s_NoPlace_NoPlace), (kit_own af_i_RowsError af_t_RowsError af_s_NoPlace_RowsError af_s_NoPlace_NoPlace), (kit_own af_i_Absent af_t_Absent af_s_NoPlace_Absent af_s_NoPlace_NoPlace), (kit_own af_i_Barred af_t_Barred af_s_NoPlace_Barred af_s_NoPlace_NoPlace), (kit_blt (by decide +kernel) af_s_NoPlace_ValueError), (kit_blt (by decide +kernel) af_s_NoPlace_LookupError), (kit_blt (by decide +kernel) af_s_NoPlace_RuntimeError), (kit_blt (by decide +kernel) af_s_NoPlace_ArithmeticError), af_k_NoOrder, af_x_NoOrder, af_b_NoOrder, af_t_NoOrder, af_eg_NoOrder, af_ek_NoOrder, af_ed_NoOrder, af_ea_NoOrder, af_em_NoOrder, (kit_own af_i_NoNumber af_t_NoNumber af_s_NoOrder_NoNumber af_s_NoOrder_NoOrder), (kit_own af_i_NoPlace af_t_NoPlace af_s_NoOrder_NoPlace af_s_NoOrder_NoOrder), (kit_own af_i_NoOrder af_t_NoOrder af_s_NoOrder_NoOrder af_s_NoOrder_NoOrder), (kit_own af_i_NoPattern af_t_NoPattern af_s_NoOrder_NoPattern af_s_NoOrder_NoOrder), (kit_own af_i_NoLetter af_t_NoLetter af_s_NoOrder_NoLetter af_s_NoOrder_NoOrder), (kit_own af_i_NoTicket af_t_NoTicket af_s_NoOrder_NoTicket af_s_NoOrder_NoOrder), (kit_own af_i_NoSize af_t_NoSize af_s_NoOrder_NoSize af_s_NoOrder_NoOrder), (kit_own af_i_NoEnd af_t_NoEnd af_s_NoOrder_NoEnd af_s_NoOrder_NoOrder), (kit_own af_i_NoDeed af_t_NoDeed af_s_NoOrder_NoDeed af_s_NoOrder_NoOrder), (kit_own af_i_NoText af_t_NoText af_s_NoOrder_NoText af_s_NoOrder_NoOrder), (kit_own af_i_NoRow af_t_NoRow af_s_NoOrder_NoRow af_s_NoOrder_NoOrder), (kit_own af_i_NoForm af_t_NoForm af_s_NoOrder_NoForm af_s_NoOrder_NoOrder), (kit_own af_i_Halted af_t_Halted af_s_NoOrder_Halted af_s_NoOrder_NoOrder), (kit_own af_i_NoBack af_t_NoBack af_s_NoOrder_NoBack af_s_NoOrder_NoOrder), (kit_own af_i_NoSuch af_t_NoSuch af_s_NoOrder_NoSuch af_s_NoOrder_NoOrder), (kit_own af_i_NoStream af_t_NoStream af_s_NoOrder_NoStream af_s_NoOrder_NoOrder), (kit_own af_i_Busy af_t_Busy af_s_NoOrder_Busy af_s_NoOrder_NoOrder), (kit_own af_i_Taken af_t_Taken af_s_NoOrder_Taken af_s_NoOrder_NoOrder), (kit_own af_i_Same af_t_Same af_s_NoOrder_Same af_s_NoOrder_NoOrder), (kit_own af_i_Spent af_t_Spent af_s_NoOrder_Spent af_s_NoOrder_NoOrder), (kit_own af_i_Twice af_t_Twice af_s_NoOrder_Twice af_s_NoOrder_NoOrder), (kit_own af_i_TooMany af_t_TooMany af_s_NoOrder_TooMany af_s_NoOrder_NoOrder), (kit_own af_i_RowsError af_t_RowsError af_s_NoOrder_RowsError af_s_NoOrder_NoOrder), (kit_own af_i_Absent af_t_Absent af_s_NoOrder_Absent af_s_NoOrder_NoOrder), (kit_own af_i_Barred af_t_Barred af_s_NoOrder_Barred af_s_NoOrder_NoOrder), (kit_blt (by decide +kernel) af_s_NoOrder_ValueError), (kit_blt (by decide +kernel) af_s_NoOrder_LookupError), (kit_blt (by decide +kernel) af_s_NoOrder_RuntimeError), (kit_blt (by decide +kernel) af_s_NoOrder_ArithmeticError), af_k_NoPattern, af_x_NoPattern, af_b_NoPattern, af_t_NoPattern, af_eg_NoPattern, af_ek_NoPattern, af_ed_NoPattern, af_ea_NoPattern, af_em_NoPattern, (kit_own af_i_NoNumber af_t_NoNumber af_s_NoPattern_NoNumber af_s_NoPattern_NoPattern), (kit_own af_i_NoPlace af_t_NoPlace af_s_NoPattern_NoPlace af_s_NoPattern_NoPattern), (kit_own af_i_NoOrder af_t_NoOrder af_s_NoPattern_NoOrder af_s_NoPattern_NoPattern), (kit_own af_i_NoPattern af_t_NoPattern af_s_NoPattern_NoPattern af_s_NoPattern_NoPattern), (kit_own af_i_NoLetter af_t_NoLetter af_s_NoPattern_NoLetter af_s_NoPattern_NoPattern), (kit_own af_i_NoTicket af_t_NoTicket af_s_NoPattern_NoTicket af_s_NoPattern_NoPattern), (kit_own af_i_NoSize af_t_NoSize af_s_NoPattern_NoSize af_s_NoPattern_NoPattern), (kit_own af_i_NoEnd af_t_NoEnd af_s_NoPattern_NoEnd af_s_NoPattern_NoPattern), (kit_own af_i_NoDeed af_t_NoDeed af_s_NoPattern_NoDeed af_s_NoPattern_NoPattern), (kit_own af_i_NoText af_t_NoText af_s_NoPattern_NoText af_s_NoPattern_NoPattern), (kit_own af_i_NoRow af_t_NoRow af_s_NoPattern_NoRow af_s_NoPattern_NoPattern), (kit_own af_i_NoForm af_t_NoForm af_s_NoPattern_NoForm af_s_NoPattern_NoPattern), (kit_own af_i_Halted af_t_Halted af_s_NoPattern_Halted af_s_NoPattern_NoPattern), (kit_own af_i_NoBack af_t_NoBack af_s_NoPattern_NoBack af_s_NoPattern_NoPattern), (kit_own af_i_NoSuch af_t_NoSuch af_s_NoPattern_NoSuch af_s_NoPattern_NoPattern), (kit_own af_i_NoStream af_t_NoStream af_s_NoPattern_NoStream af_s_NoPattern_NoPattern), (kit_own af_i_Busy af_t_Busy af_s_NoPattern_Busy af_s_NoPattern_NoPattern), (kit_own af_i_Taken af_t_Taken af_s_NoPattern_Taken af_s_NoPattern_NoPattern), (kit_own af_i_Same af_t_Same af_s_NoPattern_Same af_s_NoPattern_NoPattern), (kit_own af_i_Spent af_t_Spent af_s_NoPattern_Spent af_s_NoPattern_NoPattern), (kit_own af_i_Twice af_t_Twice af_s_NoPattern_Twice af_s_NoPattern_NoPattern), (kit_own af_i_TooMany af_t_TooMany af_s_NoPattern_TooMany af_s_NoPattern_NoPattern), (kit_own af_i_RowsError af_t_RowsError af_s_NoPattern_RowsError af_s_NoPattern_NoPattern), (kit_own af_i_Absent af_t_Absent af_s_NoPattern_Absent af_s_NoPattern_NoPattern), (kit_own af_i_Barred af_t_Barred af_s_NoPattern_Barred af_s_NoPattern_NoPattern), (kit_blt (by decide +kernel) af_s_NoPattern_ValueError), (kit_blt (by decide +kernel) af_s_NoPattern_LookupError), (kit_blt (by decide +kernel) af_s_NoPattern_RuntimeError), (kit_blt (by decide +kernel) af_s_NoPattern_ArithmeticError), af_k_NoLetter, af_x_NoLetter, af_b_NoLetter, af_t_NoLetter, af_eg_NoLetter, af_ek_NoLetter, af_ed_NoLetter, af_ea_NoLetter, af_em_NoLetter, (kit_own af_i_NoNumber af_t_NoNumber af_s_NoLetter_NoNumber af_s_NoLetter_NoLetter), (kit_own af_i_NoPlace af_t_NoPlace af_s_NoLetter_NoPlace af_s_NoLetter_NoLetter), (kit_own af_i_NoOrder af_t_NoOrder af_s_NoLetter_NoOrder af_s_NoLetter_NoLetter), (kit_own af_i_NoPattern af_t_NoPattern af_s_NoLetter_NoPattern af_s_NoLetter_NoLetter), (kit_own af_i_NoLetter af_t_NoLetter af_s_NoLetter_NoLetter af_s_NoLetter_NoLetter), (kit_own af_i_NoTicket af_t_NoTicket af_s_NoLetter_NoTicket af_s_NoLetter_NoLetter), (kit_own af_i_NoSize af_t_NoSize af_s_NoLetter_NoSize af_s_NoLetter_NoLetter), (kit_own af_i_NoEnd af_t_NoEnd af_s_NoLetter_NoEnd af_s_NoLetter_NoLetter), (kit_own af_i_NoDeed af_t_NoDeed af_s_NoLetter_NoDeed af_s_NoLetter_NoLetter), (kit_own af_i_NoText af_t_NoText af_s_NoLetter_NoText af_s_NoLetter_NoLetter), (kit_own af_i_NoRow af_t_NoRow af_s_NoLetter_NoRow af_s_NoLetter_NoLetter), (kit_own af_i_NoForm af_t_NoForm af_s_NoLetter_NoForm af_s_NoLetter_NoLetter), (kit_own af_i_Halted af_t_Halted af_s_NoLetter_Halted af_s_NoLetter_NoLetter), (kit_own af_i_NoBack af_t_NoBack af_s_NoLetter_NoBack af_s_NoLetter_NoLetter), (kit_own af_i_NoSuch af_t_NoSuch af_s_NoLetter_NoSuch af_s_NoLetter_NoLetter), (kit_own af_i_NoStream af_t_NoStream af_s_NoLetter_NoStream af_s_NoLetter_NoLetter), (kit_own af_i_Busy af_t_Busy af_s_NoLetter_Busy af_s_NoLetter_NoLetter), (kit_own af_i_Taken af_t_Taken af_s_NoLetter_Taken af_s_NoLetter_NoLetter), (kit_own af_i_Same af_t_Same af_s_NoLetter_Same af_s_NoLetter_NoLetter), (kit_own af_i_Spent af_t_Spent af_s_NoLetter_Spent af_s_NoLetter_NoLetter), (kit_own af_i_Twice af_t_Twice af_s_NoLetter_Twice af_s_NoLetter_NoLetter), (kit_own af_i_TooMany af_t_TooMany af_s_NoLetter_TooMany af_s_NoLetter_NoLetter), (kit_own af_i_RowsError af_t_RowsError af_s_NoLetter_RowsError af_s_NoLetter_NoLetter), (kit_own af_i_Absent af_t_Absent af_s_NoLetter_Absent af_s_NoLetter_NoLetter), (kit_own af_i_Barred af_t_Barred af_s_NoLetter_Barred af_s_NoLetter_NoLetter), (kit_blt (by decide +kernel) af_s_NoLetter_ValueError), (kit_blt (by decide +kernel) af_s_NoLetter_LookupError), (kit_blt (by decide +kernel) af_s_NoLetter_RuntimeError), (kit_blt (by decide +kernel) af_s_NoLetter_ArithmeticError), af_k_NoTicket, af_x_NoTicket, af_b_NoTicket, af_t_NoTicket, af_eg_NoTicket, af_ek_NoTicket, af_ed_NoTicket, af_ea_NoTicket, af_em_NoTicket, (kit_own af_i_NoNumber af_t_NoNumber af_s_NoTicket_NoNumber af_s_NoTicket_NoTicket), (kit_own af_i_NoPlace af_t_NoPlace af_s_NoTicket_NoPlace af_s_NoTicket_NoTicket), (kit_own af_i_NoOrder af_t_NoOrder af_s_NoTicket_NoOrder af_s_NoTicket_NoTicket), (kit_own af_i_NoPattern af_t_NoPattern af_s_NoTicket_NoPattern af_s_NoTicket_NoTicket), (kit_own af_i_NoLetter af_t_NoLetter af_s_NoTicket_NoLetter af_s_NoTicket_NoTicket), (kit_own af_i_NoTicket af_t_NoTicket af_s_NoTicket_NoTicket af_s_NoTicket_NoTicket), (kit_own af_i_NoSize af_t_NoSize af_s_NoTicket_NoSize af_s_NoTicket_NoTicket), (kit_own af_i_NoEnd af_t_NoEnd af_s_NoTicket_NoEnd af_s_NoTicket_NoTicket), (kit_own af_i_NoDeed af_t_NoDeed af_s_NoTicket_NoDeed af_s_NoTicket_NoTicket), (kit_own af_i_NoText af_t_NoText af_s_NoTicket_NoText af_s_NoTicket_NoTicket), (kit_own af_i_NoRow af_t_NoRow af_s_NoTicket_NoRow af_s_NoTicket_NoTicket), (kit_own af_i_NoForm af_t_NoForm af_s_NoTicket_NoForm af_s_NoTicket_NoTicket), (kit_own af_i_Halted af_t_Halted af_s_NoTicket_Halted af_s_NoTicket_NoTicket), (kit_own af_i_NoBack af_t_NoBack af_s_NoTicket_NoBack af_s_NoTicket_NoTicket), (kit_own af_i_NoSuch af_t_NoSuch af_s_NoTicket_NoSuch af_s_NoTicket_NoTicket), (kit_own af_i_NoStream af_t_NoStream af_s_NoTicket_NoStream af_s_NoTicket_NoTicket), (kit_own af_i_Busy af_t_Busy af_s_NoTicket_Busy af_s_NoTicket_NoTicket), (kit_own af_i_Taken af_t_Taken af_s_NoTicket_Taken af_s_NoTicket_NoTicket), (kit_own af_i_Same af_t_Same af_s_NoTicket_Same af_s_NoTicket_NoTicket), (kit_own af_i_Spent af_t_Spent af_s_NoTicket_Spent af_s_NoTicket_NoTicket), (kit_own af_i_Twice af_t_Twice af_s_NoTicket_Twice af_s_NoTicket_NoTicket), (kit_own af_i_TooMany af_t_TooMany af_s_NoTicket_TooMany af_s_NoTicket_NoTicket), (kit_own af_i_RowsError af_t_RowsError af_s_NoTicket_RowsError af_s_NoTicket_NoTicket), (kit_own af_i_Absent af_t_Absent af_s_NoTicket_Absent af_s_NoTicket_NoTicket), (kit_own af_i_Barred af_t_Barred af_s_NoTicket_Barred af_s_NoTicket_NoTicket), (kit_blt (by decide +kernel) af_s_NoTicket_ValueError), (kit_blt (by decide +kernel) af_s_NoTicket_LookupError), (kit_blt (by decide +kernel) af_s_NoTicket_RuntimeError), (kit_blt (by decide +kernel) af_s_NoTicket_ArithmeticError), af_k_NoSize, af_x_NoSize, af_b_NoSize, af_t_NoSize, af_eg_NoSize, af_ek_NoSize, af_ed_NoSize, af_ea_NoSize, af_em_NoSize, (kit_own af_i_NoNumber af_t_NoNumber af_s_NoSize_NoNumber af_s_NoSize_NoSize), (kit_own af_i_NoPlace af_t_NoPlace af_s_NoSize_NoPlace af_s_NoSize_NoSize), (kit_own af_i_NoOrder af_t_NoOrder af_s_NoSize_NoOrder af_s_NoSize_NoSize), (kit_own af_i_NoPattern af_t_NoPattern af_s_NoSize_NoPattern af_s_NoSize_NoSize), (kit_own af_i_NoLetter af_t_NoLetter af_s_NoSize_NoLetter af_s_NoSize_NoSize), (kit_own af_i_NoTicket af_t_NoTicket af_s_NoSize_NoTicket af_s_NoSize_NoSize), (kit_own af_i_NoSize af_t_NoSize af_s_NoSize_NoSize af_s_NoSize_NoSize), (kit_own af_i_NoEnd af_t_NoEnd af_s_NoSize_NoEnd af_s_NoSize_NoSize), (kit_own af_i_NoDeed af_t_NoDeed af_s_NoSize_NoDeed af_s_NoSize_NoSize), (kit_own af_i_NoText af_t_NoText af_s_NoSize_NoText af_s_NoSize_NoSize), (kit_own af_i_NoRow af_t_NoRow af_s_NoSize_NoRow af_s_NoSize_NoSize), (kit_own af_i_NoForm af_t_NoForm af_s_NoSize_NoForm af_s_NoSize_NoSize), (kit_own af_i_Halted af_t_Halted af_s_NoSize_Halted af_s_NoSize_NoSize), (kit_own af_i_NoBack af_t_NoBack af_s_NoSize_NoBack af_s_NoSize_NoSize), (kit_own af_i_NoSuch af_t_NoSuch af_s_NoSize_NoSuch af_s_NoSize_NoSize), (kit_own af_i_NoStream af_t_NoStream af_s_NoSize_NoStream af_s_NoSize_NoSize), (kit_own af_i_Busy af_t_Busy af_s_NoSize_Busy af_s_NoSize_NoSize), (kit_own af_i_Taken af_t_Taken af_s_NoSize_Taken af_s_NoSize_NoSize), (kit_own af_i_Same af_t_Same af_s_NoSize_Same af_s_NoSize_NoSize), (kit_own af_i_Spent af_t_Spent af_s_NoSize_Spent af_s_NoSize_NoSize), (kit_own af_i_Twice af_t_Twice af_s_NoSize_Twice af_s_NoSize_NoSize), (kit_own af_i_TooMany af_t_TooMany af_s_NoSize_TooMany af_s_NoSize_NoSize), (kit_own af_i_RowsError af_t_RowsError af_s_NoSize_RowsError af_s_NoSize_NoSize), (kit_own af_i_Absent af_t_Absent af_s_NoSize_Absent af_s_NoSize_NoSize), (kit_own af_i_Barred af_t_Barred af_s_NoSize_Barred af_s_NoSize_NoSize), (kit_blt (by decide +kernel) af_s_NoSize_ValueError), (kit_blt (by decide +kernel) af_s_NoSize_LookupError), (kit_blt (by decide +kernel) af_s_NoSize_RuntimeError), (kit_blt (by decide +kernel) af_s_NoSize_ArithmeticError), af_k_NoEnd, af_x_NoEnd, af_b_NoEnd, af_t_NoEnd, af_eg_NoEnd, af_ek_NoEnd, af_ed_NoEnd, af_ea_NoEnd, af_em_NoEnd, (kit_own af_i_NoNumber af_t_NoNumber af_s_NoEnd_NoNumber af_s_NoEnd_NoEnd), (kit_own af_i_NoPlace af_t_NoPlace af_s_NoEnd_NoPlace af_s_NoEnd_NoEnd), (kit_own af_i_NoOrder af_t_NoOrder af_s_NoEnd_NoOrder af_s_NoEnd_NoEnd), (kit_own af_i_NoPattern af_t_NoPattern af_s_NoEnd_NoPattern af_s_NoEnd_NoEnd), (kit_own af_i_NoLetter af_t_NoLetter af_s_NoEnd_NoLetter af_s_NoEnd_NoEnd), (kit_own af_i_NoTicket af_t_NoTicket af_s_NoEnd_NoTicket af_s_NoEnd_NoEnd), (kit_own af_i_NoSize af_t_NoSize af_s_NoEnd_NoSize af_s_NoEnd_NoEnd), (kit_own af_i_NoEnd af_t_NoEnd af_s_NoEnd_NoEnd af_s_NoEnd_NoEnd), (kit_own af_i_NoDeed af_t_NoDeed af_s_NoEnd_NoDeed af_s_NoEnd_NoEnd), (kit_own af_i_NoText af_t_NoText af_s_NoEnd_NoText af_s_NoEnd_NoEnd), (kit_own af_i_NoRow af_t_NoRow af_s_NoEnd_NoRow af_s_NoEnd_NoEnd), (kit_own af_i_NoForm af_t_NoForm af_s_NoEnd_NoForm af_s_NoEnd_NoEnd), (kit_own af_i_Halted af_t_Halted af_s_NoEnd_Halted af_s_NoEnd_NoEnd), (kit_own af_i_NoBack af_t_NoBack af_s_NoEnd_NoBack af_s_NoEnd_NoEnd), (kit_own af_i_NoSuch af_t_NoSuch af_s_NoEnd_NoSuch af_s_NoEnd_NoEnd), (kit_own af_i_NoStream af_t_NoStream af_s_NoEnd_NoStream af_s_NoEnd_NoEnd), (kit_own af_i_Busy af_t_Busy af_s_NoEnd_Busy af_s_NoEnd_NoEnd), (kit_own af_i_Taken af_t_Taken af_s_NoEnd_Taken af_s_NoEnd_NoEnd), (kit_own af_i_Same af_t_Same af_s_NoEnd_Same af_s_NoEnd_NoEnd), (kit_own af_i_Spent af_t_Spent af_s_NoEnd_Spent af_s_NoEnd_NoEnd), (kit_own af_i_Twice af_t_Twice af_s_NoEnd_Twice af_s_NoEnd_NoEnd), (kit_own af_i_TooMany af_t_TooMany af_s_NoEnd_TooMany af_s_NoEnd_NoEnd), (kit_own af_i_RowsError af_t_RowsError af_s_NoEnd_RowsError af_s_NoEnd_NoEnd), (kit_own af_i_Absent af_t_Absent af_s_NoEnd_Absent af_s_NoEnd_NoEnd), (kit_own af_i_Barred af_t_Barred af_s_NoEnd_Barred af_s_NoEnd_NoEnd), (kit_blt (by decide +kernel) af_s_NoEnd_ValueError), (kit_blt (by decide +kernel) af_s_NoEnd_LookupError), (kit_blt (by decide +kernel) af_s_NoEnd_RuntimeError), (kit_blt (by decide +kernel) af_s_NoEnd_ArithmeticError), af_k_NoDeed, af_x_NoDeed, af_b_NoDeed, af_t_NoDeed, af_eg_NoDeed, af_ek_NoDeed, af_ed_NoDeed, af_ea_NoDeed, af_em_NoDeed, (kit_own af_i_NoNumber af_t_NoNumber af_s_NoDeed_NoNumber af_s_NoDeed_NoDeed), (kit_own af_i_NoPlace af_t_NoPlace af_s_NoDeed_NoPlace af_s_NoDeed_NoDeed), (kit_own af_i_NoOrder af_t_NoOrder af_s_NoDeed_NoOrder af_s_NoDeed_NoDeed), (kit_own af_i_NoPattern af_t_NoPattern af_s_NoDeed_NoPattern af_s_NoDeed_NoDeed), (kit_own af_i_NoLetter af_t_NoLetter af_s_NoDeed_NoLetter af_s_NoDeed_NoDeed), (kit_own af_i_NoTicket af_t_NoTicket af_s_NoDeed_NoTicket af_s_NoDeed_NoDeed), (kit_own af_i_NoSize af_t_NoSize af_s_NoDeed_NoSize af_s_NoDeed_NoDeed), (kit_own af_i_NoEnd af_t_NoEnd af_s_NoDeed_NoEnd af_s_NoDeed_NoDeed), (kit_own af_i_NoDeed af_t_NoDeed af_s_NoDeed_NoDeed af_s_NoDeed_NoDeed), (kit_own af_i_NoText af_t_NoText af_s_NoDeed_NoText af_s_NoDeed_NoDeed), (kit_own af_i_NoRow af_t_NoRow af_s_NoDeed_NoRow af_s_NoDeed_NoDeed), (kit_own af_i_NoForm af_t_NoForm af_s_NoDeed_NoForm af_s_NoDeed_NoDeed), (kit_own af_i_Halted af_t_Halted af_s_NoDeed_Halted af_s_NoDeed_NoDeed), (kit_own af_i_NoBack af_t_NoBack af_s_NoDeed_NoBack af_s_NoDeed_NoDeed), (kit_own af_i_NoSuch af_t_NoSuch af_s_NoDeed_NoSuch af_s_NoDeed_NoDeed), (kit_own af_i_NoStream af_t_NoStream af_s_NoDeed_NoStream af_s_NoDeed_NoDeed), (kit_own af_i_Busy af_t_Busy af_s_NoDeed_Busy af_s_NoDeed_NoDeed), (kit_own af_i_Taken af_t_Taken af_s_NoDeed_Taken af_s_NoDeed_NoDeed), (kit_own af_i_Same af_t_Same af_s_NoDeed_Same af_s_NoDeed_NoDeed), (kit_own af_i_Spent af_t_Spent af_s_NoDeed_Spent af_s_NoDeed_NoDeed), (kit_own af_i_Twice af_t_Twice af_s_NoDeed_Twice af_s_NoDeed_NoDeed), (kit_own af_i_TooMany af_t_TooMany af_s_NoDeed_TooMany af_s_NoDeed_NoDeed), (kit_own af_i_RowsError af_t_RowsError af_s_NoDeed_RowsError af_s_NoDeed_NoDeed), (kit_own af_i_Absent af_t_Absent af_s_NoDeed_Absent af_s_NoDeed_NoDeed), (kit_own af_i_Barred af_t_Barred af_s_NoDeed_Barred af_s_NoDeed_NoDeed), (kit_blt (by decide +kernel) af_s_NoDeed_ValueError), (kit_blt (by decide +kernel) af_s_NoDeed_LookupError), (kit_blt (by decide +kernel) af_s_NoDeed_RuntimeError), (kit_blt (by decide +kernel) af_s_NoDeed_ArithmeticError), af_k_NoText, af_x_NoText, af_b_NoText, af_t_NoText, af_eg_NoText, af_ek_NoText, af_ed_NoText, af_ea_NoText, af_em_NoText, (kit_own af_i_NoNumber af_t_NoNumber af_s_NoText_NoNumber af_s_NoText_NoText), (kit_own af_i_NoPlace af_t_NoPlace af_s_NoText_NoPlace af_s_NoText_NoText), (kit_own af_i_NoOrder af_t_NoOrder af_s_NoText_NoOrder af_s_NoText_NoText), (kit_own af_i_NoPattern af_t_NoPattern af_s_NoText_NoPattern af_s_NoText_NoText), (kit_own af_i_NoLetter af_t_NoLetter af_s_NoText_NoLetter af_s_NoText_NoText), (kit_own af_i_NoTicket af_t_NoTicket af_s_NoText_NoTicket af_s_NoText_NoText), (kit_own af_i_NoSize af_t_NoSize af_s_NoText_NoSize af_s_NoText_NoText), (kit_own af_i_NoEnd af_t_NoEnd af_s_NoText_NoEnd af_s_NoText_NoText), (kit_own af_i_NoDeed af_t_NoDeed af_s_NoText_NoDeed af_s_NoText_NoText), (kit_own af_i_NoText af_t_NoText af_s_NoText_NoText af_s_NoText_NoText), (kit_own af_i_NoRow af_t_NoRow af_s_NoText_NoRow af_s_NoText_NoText), (kit_own af_i_NoForm af_t_NoForm af_s_NoText_NoForm af_s_NoText_NoText), (kit_own af_i_Halted af_t_Halted af_s_NoText_Halted af_s_NoText_NoText), (kit_own af_i_NoBack af_t_NoBack af_s_NoText_NoBack af_s_NoText_NoText), (kit_own af_i_NoSuch af_t_NoSuch af_s_NoText_NoSuch af_s_NoText_NoText), (kit_own af_i_NoStream af_t_NoStream af_s_NoText_NoStream af_s_NoText_NoText), (kit_own af_i_Busy af_t_Busy af_s_NoText_Busy af_s_NoText_NoText), (kit_own af_i_Taken af_t_Taken af_s_NoText_Taken af_s_NoText_NoText), (kit_own af_i_Same af_t_Same af_s_NoText_Same af_s_NoText_NoText), (kit_own af_i_Spent af_t_Spent af_s_NoText_Spent af_s_NoText_NoText), (kit_own af_i_Twice af_t_Twice af_s_NoText_Twice af_s_NoText_NoText), (kit_own af_i_TooMany af_t_TooMany af_s_NoText_TooMany af_s_NoText_NoText), (kit_own af_i_RowsError af_t_RowsError af_s_NoText_RowsError af_s_NoText_NoText), (kit_own af_i_Absent af_t_Absent af_s_NoText_Absent af_s_NoText_NoText), (kit_own af_i_Barred af_t_Barred af_s_NoText_Barred af_s_NoText_NoText), (kit_blt (by decide +kernel) af_s_NoText_ValueError), (kit_blt (by decide +kernel) af_s_NoText_LookupError), (kit_blt (by decide +kernel) af_s_NoText_RuntimeError), (kit_blt (by decide +kernel) af_s_NoText_ArithmeticError), af_k_NoRow, af_x_NoRow, af_b_NoRow, af_t_NoRow, af_eg_NoRow, af_ek_NoRow, af_ed_NoRow, af_ea_NoRow, af_em_NoRow, (kit_own af_i_NoNumber af_t_NoNumber af_s_NoRow_NoNumber af_s_NoRow_NoRow), (kit_own af_i_NoPlace af_t_NoPlace af_s_NoRow_NoPlace af_s_NoRow_NoRow), (kit_own af_i_NoOrder af_t_NoOrder af_s_NoRow_NoOrder af_s_NoRow_NoRow), (kit_own af_i_NoPattern af_t_NoPattern af_s_NoRow_NoPattern af_s_NoRow_NoRow), (kit_own af_i_NoLetter af_t_NoLetter af_s_NoRow_NoLetter af_s_NoRow_NoRow), (kit_own af_i_NoTicket af_t_NoTicket af_s_NoRow_NoTicket af_s_NoRow_NoRow), (kit_own af_i_NoSize af_t_NoSize af_s_NoRow_NoSize af_s_NoRow_NoRow), (kit_own af_i_NoEnd af_t_NoEnd af_s_NoRow_NoEnd af_s_NoRow_NoRow), (kit_own af_i_NoDeed af_t_NoDeed af_s_NoRow_NoDeed af_s_NoRow_NoRow), (kit_own af_i_NoText af_t_NoText af_s_NoRow_NoText af_s_NoRow_NoRow), (kit_own af_i_NoRow af_t_NoRow af_s_NoRow_NoRow af_s_NoRow_NoRow), (kit_own af_i_NoForm af_t_NoForm af_s_NoRow_NoForm af_s_NoRow_NoRow), (kit_own af_i_Halted af_t_Halted af_s_NoRow_Halted af_s_NoRow_NoRow), (kit_own af_i_NoBack af_t_NoBack af_s_NoRow_NoBack af_s_NoRow_NoRow), (kit_own af_i_NoSuch af_t_NoSuch af_s_NoRow_NoSuch af_s_NoRow_NoRow), (kit_own af_i_NoStream af_t_NoStream af_s_NoRow_NoStream af_s_NoRow_NoRow), (kit_own af_i_Busy af_t_Busy af_s_NoRow_Busy af_s_NoRow_NoRow), (kit_own af_i_Taken af_t_Taken af_s_NoRow_Taken af_s_NoRow_NoRow), (kit_own af_i_Same af_t_Same af_s_NoRow_Same af_s_NoRow_NoRow), (kit_own af_i_Spent af_t_Spent af_s_NoRow_Spent af_s_NoRow_NoRow), (kit_own af_i_Twice af_t_Twice af_s_NoRow_Twice af_s_NoRow_NoRow), (kit_own af_i_TooMany af_t_TooMany af_s_NoRow_TooMany af_s_NoRow_NoRow), (kit_own af_i_RowsError af_t_RowsError af_s_NoRow_RowsError af_s_NoRow_NoRow), (kit_own af_i_Absent af_t_Absent af_s_NoRow_Absent af_s_NoRow_NoRow), (kit_own af_i_Barred af_t_Barred af_s_NoRow_Barred af_s_NoRow_NoRow), (kit_blt (by decide +kernel) af_s_NoRow_ValueError), (kit_blt (by decide +kernel) af_s_NoRow_LookupError), (kit_blt (by decide +kernel) af_s_NoRow_RuntimeError), (kit_blt (by decide +kernel) af_s_NoRow_ArithmeticError), af_k_NoForm, ⟨af_ai_NoForm, af_ao_NoForm, af_ed_NoForm, af_sa_NoForm, af_b_NoForm, af_t_NoForm, af_k_NoForm⟩, af_n_NoForm_what, af_sg_RowsError, af_rd_RowsError, af_fv_RowsError, af_eg_NoForm, af_ek_NoForm, af_ed_NoForm, af_b_NoForm, af_t_NoForm, af_ea_NoForm, af_em_NoForm, (kit_own af_i_NoNumber af_t_NoNumber af_s_NoForm_NoNumber af_s_NoForm_NoForm), (kit_own af_i_NoPlace af_t_NoPlace af_s_NoForm_NoPlace af_s_NoForm_NoForm), (kit_own af_i_NoOrder af_t_NoOrder af_s_NoForm_NoOrder af_s_NoForm_NoForm), (kit_own af_i_NoPattern af_t_NoPattern af_s_NoForm_NoPattern af_s_NoForm_NoForm), (kit_own af_i_NoLetter af_t_NoLetter af_s_NoForm_NoLetter af_s_NoForm_NoForm), (kit_own af_i_NoTicket af_t_NoTicket af_s_NoForm_NoTicket af_s_NoForm_NoForm), (kit_own af_i_NoSize af_t_NoSize af_s_NoForm_NoSize af_s_NoForm_NoForm), (kit_own af_i_NoEnd af_t_NoEnd af_s_NoForm_NoEnd af_s_NoForm_NoForm), (kit_own af_i_NoDeed af_t_NoDeed af_s_NoForm_NoDeed af_s_NoForm_NoForm), (kit_own af_i_NoText af_t_NoText af_s_NoForm_NoText af_s_NoForm_NoForm), (kit_own af_i_NoRow af_t_NoRow af_s_NoForm_NoRow af_s_NoForm_NoForm), (kit_own af_i_NoForm af_t_NoForm af_s_NoForm_NoForm af_s_NoForm_NoForm), (kit_own af_i_Halted af_t_Halted af_s_NoForm_Halted af_s_NoForm_NoForm), (kit_own af_i_NoBack af_t_NoBack af_s_NoForm_NoBack af_s_NoForm_NoForm), (kit_own af_i_NoSuch af_t_NoSuch af_s_NoForm_NoSuch af_s_NoForm_NoForm), (kit_own af_i_NoStream af_t_NoStream af_s_NoForm_NoStream af_s_NoForm_NoForm), (kit_own af_i_Busy af_t_Busy af_s_NoForm_Busy af_s_NoForm_NoForm), (kit_own af_i_Taken af_t_Taken af_s_NoForm_Taken af_s_NoForm_NoForm), (kit_own af_i_Same af_t_Same af_s_NoForm_Same af_s_NoForm_NoForm), (kit_own af_i_Spent af_t_Spent af_s_NoForm_Spent af_s_NoForm_NoForm), (kit_own af_i_Twice af_t_Twice af_s_NoForm_Twice af_s_NoForm_NoForm), (kit_own af_i_TooMany af_t_TooMany af_s_NoForm_TooMany af_s_NoForm_NoForm), (kit_own af_i_RowsError af_t_RowsError af_s_NoForm_RowsError af_s_NoForm_NoForm), (kit_own af_i_Absent af_t_Absent af_s_NoForm_Absent af_s_NoForm_NoForm), (kit_own af_i_Barred af_t_Barred af_s_NoForm_Barred af_s_NoForm_NoForm), (kit_blt (by decide +kernel) af_s_NoForm_ValueError), (kit_blt (by decide +kernel) af_s_NoForm_LookupError), (kit_blt (by decide +kernel) af_s_NoForm_RuntimeError), (kit_blt (by decide +kernel) af_s_NoForm_ArithmeticError), af_k_Halted, ⟨af_ai_Halted, af_ao_Halted, af_ed_Halted, af_sa_Halted, af_b_Halted, af_t_Halted, af_k_Halted⟩, af_n_Halted_number, af_n_Halted_answers, af_eg_Halted, af_ek_Halted, af_ed_Halted, af_b_Halted, af_t_Halted, af_ea_Halted, af_em_Halted, (kit_own af_i_NoNumber af_t_NoNumber af_s_Halted_NoNumber af_s_Halted_Halted), (kit_own af_i_NoPlace af_t_NoPlace af_s_Halted_NoPlace af_s_Halted_Halted), (kit_own af_i_NoOrder af_t_NoOrder af_s_Halted_NoOrder af_s_Halted_Halted), (kit_own af_i_NoPattern af_t_NoPattern af_s_Halted_NoPattern af_s_Halted_Halted), (kit_own af_i_NoLetter af_t_NoLetter af_s_Halted_NoLetter af_s_Halted_Halted), (kit_own af_i_NoTicket af_t_NoTicket af_s_Halted_NoTicket af_s_Halted_Halted), (kit_own af_i_NoSize af_t_NoSize af_s_Halted_NoSize af_s_Halted_Halted), (kit_own af_i_NoEnd af_t_NoEnd af_s_Halted_NoEnd af_s_Halted_Halted), (kit_own af_i_NoDeed af_t_NoDeed af_s_Halted_NoDeed af_s_Halted_Halted), (kit_own af_i_NoText af_t_NoText af_s_Halted_NoText af_s_Halted_Halted), (kit_own af_i_NoRow af_t_NoRow af_s_Halted_NoRow af_s_Halted_Halted), (kit_own af_i_NoForm af_t_NoForm af_s_Halted_NoForm af_s_Halted_Halted), (kit_own af_i_Halted af_t_Halted af_s_Halted_Halted af_s_Halted_Halted), (kit_own af_i_NoBack af_t_NoBack af_s_Halted_NoBack af_s_Halted_Halted), (kit_own af_i_NoSuch af_t_NoSuch af_s_Halted_NoSuch af_s_Halted_Halted), (kit_own af_i_NoStream af_t_NoStream af_s_Halted_NoStream af_s_Halted_Halted), (kit_own af_i_Busy af_t_Busy af_s_Halted_Busy af_s_Halted_Halted), (kit_own af_i_Taken af_t_Taken af_s_Halted_Taken af_s_Halted_Halted), (kit_own af_i_Same af_t_Same af_s_Halted_Same af_s_Halted_Halted), (kit_own af_i_Spent af_t_Spent af_s_Halted_Spent af_s_Halted_Halted), (kit_own af_i_Twice af_t_Twice af_s_Halted_Twice af_s_Halted_Halted), (kit_own af_i_TooMany af_t_TooMany af_s_Halted_TooMany af_s_Halted_Halted), (kit_own af_i_RowsError af_t_RowsError af_s_Halted_RowsError af_s_Halted_Halted), (kit_own af_i_Absent af_t_Absent af_s_Halted_Absent af_s_Halted_Halted), (kit_own af_i_Barred af_t_Barred af_s_Halted_Barred af_s_Halted_Halted), (kit_blt (by decide +kernel) af_s_Halted_ValueError), (kit_blt (by decide +kernel) af_s_Halted_LookupError), (kit_blt (by decide +kernel) af_s_Halted_RuntimeError), (kit_blt (by decide +kernel) af_s_Halted_ArithmeticError), af_k_NoBack, af_x_NoBack, af_b_NoBack, af_t_NoBack, af_eg_NoBack, af_ek_NoBack, af_ed_NoBack, af_ea_NoBack, af_em_NoBack, (kit_own af_i_NoNumber af_t_NoNumber af_s_NoBack_NoNumber af_s_NoBack_NoBack), (kit_own af_i_NoPlace af_t_NoPlace af_s_NoBack_NoPlace af_s_NoBack_NoBack), (kit_own af_i_NoOrder af_t_NoOrder af_s_NoBack_NoOrder af_s_NoBack_NoBack), (kit_own af_i_NoPattern af_t_NoPattern af_s_NoBack_NoPattern af_s_NoBack_NoBack), (kit_own af_i_NoLetter af_t_NoLetter af_s_NoBack_NoLetter af_s_NoBack_NoBack), (kit_own af_i_NoTicket af_t_NoTicket af_s_NoBack_NoTicket af_s_NoBack_NoBack), (kit_own af_i_NoSize af_t_NoSize af_s_NoBack_NoSize af_s_NoBack_NoBack), (kit_own af_i_NoEnd af_t_NoEnd af_s_NoBack_NoEnd af_s_NoBack_NoBack), (kit_own af_i_NoDeed af_t_NoDeed af_s_NoBack_NoDeed af_s_NoBack_NoBack), (kit_own af_i_NoText af_t_NoText af_s_NoBack_NoText af_s_NoBack_NoBack), (kit_own af_i_NoRow af_t_NoRow af_s_NoBack_NoRow af_s_NoBack_NoBack), (kit_own af_i_NoForm af_t_NoForm af_s_NoBack_NoForm af_s_NoBack_NoBack), (kit_own af_i_Halted af_t_Halted af_s_NoBack_Halted af_s_NoBack_NoBack), (kit_own af_i_NoBack af_t_NoBack af_s_NoBack_NoBack af_s_NoBack_NoBack), (kit_own af_i_NoSuch af_t_NoSuch af_s_NoBack_NoSuch af_s_NoBack_NoBack), (kit_own af_i_NoStream af_t_NoStream af_s_NoBack_NoStream af_s_NoBack_NoBack), (kit_own af_i_Busy af_t_Busy af_s_NoBack_Busy af_s_NoBack_NoBack), (kit_own af_i_Taken af_t_Taken af_s_NoBack_Taken af_s_NoBack_NoBack), (kit_own af_i_Same af_t_Same af_s_NoBack_Same af_s_NoBack_NoBack), (kit_own af_i_Spent af_t_Spent af_s_NoBack_Spent af_s_NoBack_NoBack), (kit_own af_i_Twice af_t_Twice af_s_NoBack_Twice af_s_NoBack_NoBack), (kit_own af_i_TooMany af_t_TooMany af_s_NoBack_TooMany af_s_NoBack_NoBack), (kit_own af_i_RowsError af_t_RowsError af_s_NoBack_RowsError af_s_NoBack_NoBack), (kit_own af_i_Absent af_t_Absent af_s_NoBack_Absent af_s_NoBack_NoBack), (kit_own af_i_Barred af_t_Barred af_s_NoBack_Barred af_s_NoBack_NoBack), (kit_blt (by decide +kernel) af_s_NoBack_ValueError), (kit_blt (by decide +kernel) af_s_NoBack_LookupError), (kit_blt (by decide +kernel) af_s_NoBack_RuntimeError), (kit_blt (by decide +kernel) af_s_NoBack_ArithmeticError), af_k_NoSuch, ⟨af_ai_NoSuch, af_ao_NoSuch, af_ed_NoSuch, af_sa_NoSuch, af_b_NoSuch, af_t_NoSuch, af_k_NoSuch⟩, af_n_NoSuch_name, af_sg_Absent, af_rd_Absent, af_fv_Absent, af_eg_NoSuch, af_ek_NoSuch, af_ed_NoSuch, af_b_NoSuch, af_t_NoSuch, af_ea_NoSuch, af_em_NoSuch, (kit_own af_i_NoNumber af_t_NoNumber af_s_NoSuch_NoNumber af_s_NoSuch_NoSuch), (kit_own af_i_NoPlace af_t_NoPlace af_s_NoSuch_NoPlace af_s_NoSuch_NoSuch), (kit_own af_i_NoOrder af_t_NoOrder af_s_NoSuch_NoOrder af_s_NoSuch_NoSuch), (kit_own af_i_NoPattern af_t_NoPattern af_s_NoSuch_NoPattern af_s_NoSuch_NoSuch), (kit_own af_i_NoLetter af_t_NoLetter af_s_NoSuch_NoLetter af_s_NoSuch_NoSuch), (kit_own af_i_NoTicket af_t_NoTicket af_s_NoSuch_NoTicket af_s_NoSuch_NoSuch), (kit_own af_i_NoSize af_t_NoSize af_s_NoSuch_NoSize af_s_NoSuch_NoSuch), (kit_own af_i_NoEnd af_t_NoEnd af_s_NoSuch_NoEnd af_s_NoSuch_NoSuch), (kit_own af_i_NoDeed af_t_NoDeed af_s_NoSuch_NoDeed af_s_NoSuch_NoSuch), (kit_own af_i_NoText af_t_NoText af_s_NoSuch_NoText af_s_NoSuch_NoSuch), (kit_own af_i_NoRow af_t_NoRow af_s_NoSuch_NoRow af_s_NoSuch_NoSuch), (kit_own af_i_NoForm af_t_NoForm af_s_NoSuch_NoForm af_s_NoSuch_NoSuch), (kit_own af_i_Halted af_t_Halted af_s_NoSuch_Halted af_s_NoSuch_NoSuch), (kit_own af_i_NoBack af_t_NoBack af_s_NoSuch_NoBack af_s_NoSuch_NoSuch), (kit_own af_i_NoSuch af_t_NoSuch af_s_NoSuch_NoSuch af_s_NoSuch_NoSuch), (kit_own af_i_NoStream af_t_NoStream af_s_NoSuch_NoStream af_s_NoSuch_NoSuch), (kit_own af_i_Busy af_t_Busy af_s_NoSuch_Busy af_s_NoSuch_NoSuch), (kit_own af_i_Taken af_t_Taken af_s_NoSuch_Taken af_s_NoSuch_NoSuch), (kit_own af_i_Same af_t_Same af_s_NoSuch_Same af_s_NoSuch_NoSuch), (kit_own af_i_Spent af_t_Spent af_s_NoSuch_Spent af_s_NoSuch_NoSuch), (kit_own af_i_Twice af_t_Twice af_s_NoSuch_Twice af_s_NoSuch_NoSuch), (kit_own af_i_TooMany af_t_TooMany af_s_NoSuch_TooMany af_s_NoSuch_NoSuch), (kit_own af_i_RowsError af_t_RowsError af_s_NoSuch_RowsError af_s_NoSuch_NoSuch), (kit_own af_i_Absent af_t_Absent af_s_NoSuch_Absent af_s_NoSuch_NoSuch), (kit_own af_i_Barred af_t_Barred af_s_NoSuch_Barred af_s_NoSuch_NoSuch), (kit_blt (by decide +kernel) af_s_NoSuch_ValueError), (kit_blt (by decide +kernel) af_s_NoSuch_LookupError), (kit_blt (by decide +kernel) af_s_NoSuch_RuntimeError), (kit_blt (by decide +kernel) af_s_NoSuch_ArithmeticError), af_k_NoStream, ⟨af_ai_NoStream, af_ao_NoStream, af_ed_NoStream, af_sa_NoStream, af_b_NoStream, af_t_NoStream, af_k_NoStream⟩, af_n_NoStream_letter, af_eg_NoStream, af_ek_NoStream, af_ed_NoStream, af_b_NoStream, af_t_NoStream, af_ea_NoStream, af_em_NoStream, (kit_own af_i_NoNumber af_t_NoNumber af_s_NoStream_NoNumber af_s_NoStream_NoStream), (kit_own af_i_NoPlace af_t_NoPlace af_s_NoStream_NoPlace af_s_NoStream_NoStream), (kit_own af_i_NoOrder af_t_NoOrder af_s_NoStream_NoOrder af_s_NoStream_NoStream), (kit_own af_i_NoPattern af_t_NoPattern af_s_NoStream_NoPattern af_s_NoStream_NoStream), (kit_own af_i_NoLetter af_t_NoLetter af_s_NoStream_NoLetter af_s_NoStream_NoStream), (kit_own af_i_NoTicket af_t_NoTicket af_s_NoStream_NoTicket af_s_NoStream_NoStream), (kit_own af_i_NoSize af_t_NoSize af_s_NoStream_NoSize af_s_NoStream_NoStream), (kit_own af_i_NoEnd af_t_NoEnd af_s_NoStream_NoEnd af_s_NoStream_NoStream), (kit_own af_i_NoDeed af_t_NoDeed af_s_NoStream_NoDeed af_s_NoStream_NoStream), (kit_own af_i_NoText af_t_NoText af_s_NoStream_NoText af_s_NoStream_NoStream), (kit_own af_i_NoRow af_t_NoRow af_s_NoStream_NoRow af_s_NoStream_NoStream), (kit_own af_i_NoForm af_t_NoForm af_s_NoStream_NoForm af_s_NoStream_NoStream), (kit_own af_i_Halted af_t_Halted af_s_NoStream_Halted af_s_NoStream_NoStream), (kit_own af_i_NoBack af_t_NoBack af_s_NoStream_NoBack af_s_NoStream_NoStream), (kit_own af_i_NoSuch af_t_NoSuch af_s_NoStream_NoSuch af_s_NoStream_NoStream), (kit_own af_i_NoStream af_t_NoStream af_s_NoStream_NoStream af_s_NoStream_NoStream), (kit_own af_i_Busy af_t_Busy af_s_NoStream_Busy af_s_NoStream_NoStream), (kit_own af_i_Taken af_t_Taken af_s_NoStream_Taken af_s_NoStream_NoStream), (kit_own af_i_Same af_t_Same af_s_NoStream_Same af_s_NoStream_NoStream), (kit_own af_i_Spent af_t_Spent af_s_NoStream_Spent af_s_NoStream_NoStream), (kit_own af_i_Twice af_t_Twice af_s_NoStream_Twice af_s_NoStream_NoStream), (kit_own af_i_TooMany af_t_TooMany af_s_NoStream_TooMany af_s_NoStream_NoStream), (kit_own af_i_RowsError af_t_RowsError af_s_NoStream_RowsError af_s_NoStream_NoStream), (kit_own af_i_Absent af_t_Absent af_s_NoStream_Absent af_s_NoStream_NoStream), (kit_own af_i_Barred af_t_Barred af_s_NoStream_Barred af_s_NoStream_NoStream), (kit_blt (by decide +kernel) af_s_NoStream_ValueError), (kit_blt (by decide +kernel) af_s_NoStream_LookupError), (kit_blt (by decide +kernel) af_s_NoStream_RuntimeError), (kit_blt (by decide +kernel) af_s_NoStream_ArithmeticError), af_k_Busy, af_x_Busy, af_b_Busy, af_t_Busy, af_eg_Busy, af_ek_Busy, af_ed_Busy, af_ea_Busy, af_em_Busy, (kit_own af_i_NoNumber af_t_NoNumber af_s_Busy_NoNumber af_s_Busy_Busy), (kit_own af_i_NoPlace af_t_NoPlace af_s_Busy_NoPlace af_s_Busy_Busy), (kit_own af_i_NoOrder af_t_NoOrder af_s_Busy_NoOrder af_s_Busy_Busy), (kit_own af_i_NoPattern af_t_NoPattern af_s_Busy_NoPattern af_s_Busy_Busy), (kit_own af_i_NoLetter af_t_NoLetter af_s_Busy_NoLetter af_s_Busy_Busy), (kit_own af_i_NoTicket af_t_NoTicket af_s_Busy_NoTicket af_s_Busy_Busy), (kit_own af_i_NoSize af_t_NoSize af_s_Busy_NoSize af_s_Busy_Busy), (kit_own af_i_NoEnd af_t_NoEnd af_s_Busy_NoEnd af_s_Busy_Busy), (kit_own af_i_NoDeed af_t_NoDeed af_s_Busy_NoDeed af_s_Busy_Busy), (kit_own af_i_NoText af_t_NoText af_s_Busy_NoText af_s_Busy_Busy), (kit_own af_i_NoRow af_t_NoRow af_s_Busy_NoRow af_s_Busy_Busy), (kit_own af_i_NoForm af_t_NoForm af_s_Busy_NoForm af_s_Busy_Busy), (kit_own af_i_Halted af_t_Halted af_s_Busy_Halted af_s_Busy_Busy), (kit_own af_i_NoBack af_t_NoBack af_s_Busy_NoBack af_s_Busy_Busy), (kit_own af_i_NoSuch af_t_NoSuch af_s_Busy_NoSuch af_s_Busy_Busy), (kit_own af_i_NoStream af_t_NoStream af_s_Busy_NoStream af_s_Busy_Busy), (kit_own af_i_Busy af_t_Busy af_s_Busy_Busy af_s_Busy_Busy), (kit_own af_i_Taken af_t_Taken af_s_Busy_Taken af_s_Busy_Busy), (kit_own af_i_Same af_t_Same af_s_Busy_Same af_s_Busy_Busy), (kit_own af_i_Spent af_t_Spent af_s_Busy_Spent af_s_Busy_Busy), (kit_own af_i_Twice af_t_Twice af_s_Busy_Twice af_s_Busy_Busy), (kit_own af_i_TooMany af_t_TooMany af_s_Busy_TooMany af_s_Busy_Busy), (kit_own af_i_RowsError af_t_RowsError af_s_Busy_RowsError af_s_Busy_Busy), (kit_own af_i_Absent af_t_Absent af_s_Busy_Absent af_s_Busy_Busy), (kit_own af_i_Barred af_t_Barred af_s_Busy_Barred af_s_Busy_Busy), (kit_blt (by decide +kernel) af_s_Busy_ValueError), (kit_blt (by decide +kernel) af_s_Busy_LookupError), (kit_blt (by decide +kernel) af_s_Busy_RuntimeError), (kit_blt (by decide +kernel) af_s_Busy_ArithmeticError), af_k_Taken, ⟨af_ai_Taken, af_ao_Taken, af_ed_Taken, af_sa_Taken, af_b_Taken, af_t_Taken, af_k_Taken⟩, af_n_Taken_name, af_sg_Barred, af_rd_Barred, af_fv_Barred, af_eg_Taken, af_ek_Taken, af_ed_Taken, af_b_Taken, af_t_Taken, af_ea_Taken, af_em_Taken, (kit_own af_i_NoNumber af_t_NoNumber af_s_Taken_NoNumber af_s_Taken_Taken), (kit_own af_i_NoPlace af_t_NoPlace af_s_Taken_NoPlace af_s_Taken_Taken), (kit_own af_i_NoOrder af_t_NoOrder af_s_Taken_NoOrder af_s_Taken_Taken), (kit_own af_i_NoPattern af_t_NoPattern af_s_Taken_NoPattern af_s_Taken_Taken), (kit_own af_i_NoLetter af_t_NoLetter af_s_Taken_NoLetter af_s_Taken_Taken), (kit_own af_i_NoTicket af_t_NoTicket af_s_Taken_NoTicket af_s_Taken_Taken), (kit_own af_i_NoSize af_t_NoSize af_s_Taken_NoSize af_s_Taken_Taken), (kit_own af_i_NoEnd af_t_NoEnd af_s_Taken_NoEnd af_s_Taken_Taken), (kit_own af_i_NoDeed af_t_NoDeed af_s_Taken_NoDeed af_s_Taken_Taken), (kit_own af_i_NoText af_t_NoText af_s_Taken_NoText af_s_Taken_Taken), (kit_own af_i_NoRow af_t_NoRow af_s_Taken_NoRow af_s_Taken_Taken), (kit_own af_i_NoForm af_t_NoForm af_s_Taken_NoForm af_s_Taken_Taken), (kit_own af_i_Halted af_t_Halted af_s_Taken_Halted af_s_Taken_Taken), (kit_own af_i_NoBack af_t_NoBack af_s_Taken_NoBack af_s_Taken_Taken), (kit_own af_i_NoSuch af_t_NoSuch af_s_Taken_NoSuch af_s_Taken_Taken), (kit_own af_i_NoStream af_t_NoStream af_s_Taken_NoStream af_s_Taken_Taken), (kit_own af_i_Busy af_t_Busy af_s_Taken_Busy af_s_Taken_Taken), (kit_own af_i_Taken af_t_Taken af_s_Taken_Taken af_s_Taken_Taken), (kit_own af_i_Same af_t_Same af_s_Taken_Same af_s_Taken_Taken), (kit_own af_i_Spent af_t_Spent af_s_Taken_Spent af_s_Taken_Taken), (kit_own af_i_Twice af_t_Twice af_s_Taken_Twice af_s_Taken_Taken), (kit_own af_i_TooMany af_t_TooMany af_s_Taken_TooMany af_s_Taken_Taken), (kit_own af_i_RowsError af_t_RowsError af_s_Taken_RowsError af_s_Taken_Taken), (kit_own af_i_Absent af_t_Absent af_s_Taken_Absent af_s_Taken_Taken), (kit_own af_i_Barred af_t_Barred af_s_Taken_Barred af_s_Taken_Taken), (kit_blt (by decide +kernel) af_s_Taken_ValueError), (kit_blt (by decide +kernel) af_s_Taken_LookupError), (kit_blt (by decide +kernel) af_s_Taken_RuntimeError), (kit_blt (by decide +kernel) af_s_Taken_ArithmeticError), af_k_Same, ⟨af_ai_Same, af_ao_Same, af_ed_Same, af_sa_Same, af_b_Same, af_t_Same, af_k_Same⟩, af_n_Same_name, af_eg_Same, af_ek_Same, af_ed_Same, af_b_Same, af_t_Same, af_ea_Same, af_em_Same, (kit_own af_i_NoNumber af_t_NoNumber af_s_Same_NoNumber af_s_Same_Same), (kit_own af_i_NoPlace af_t_NoPlace af_s_Same_NoPlace af_s_Same_Same), (kit_own af_i_NoOrder af_t_NoOrder af_s_Same_NoOrder af_s_Same_Same), (kit_own af_i_NoPattern af_t_NoPattern af_s_Same_NoPattern af_s_Same_Same), (kit_own af_i_NoLetter af_t_NoLetter af_s_Same_NoLetter af_s_Same_Same), (kit_own af_i_NoTicket af_t_NoTicket af_s_Same_NoTicket af_s_Same_Same), (kit_own af_i_NoSize af_t_NoSize af_s_Same_NoSize af_s_Same_Same), (kit_own af_i_NoEnd af_t_NoEnd af_s_Same_NoEnd af_s_Same_Same), (kit_own af_i_NoDeed af_t_NoDeed af_s_Same_NoDeed af_s_Same_Same), (kit_own af_i_NoText af_t_NoText af_s_Same_NoText af_s_Same_Same), (kit_own af_i_NoRow af_t_NoRow af_s_Same_NoRow af_s_Same_Same), (kit_own af_i_NoForm af_t_NoForm af_s_Same_NoForm af_s_Same_Same), (kit_own af_i_Halted af_t_Halted af_s_Same_Halted af_s_Same_Same), (kit_own af_i_NoBack af_t_NoBack af_s_Same_NoBack af_s_Same_Same), (kit_own af_i_NoSuch af_t_NoSuch af_s_Same_NoSuch af_s_Same_Same), (kit_own af_i_NoStream af_t_NoStream af_s_Same_NoStream af_s_Same_Same), (kit_own af_i_Busy af_t_Busy af_s_Same_Busy af_s_Same_Same), (kit_own af_i_Taken af_t_Taken af_s_Same_Taken af_s_Same_Same), (kit_own af_i_Same af_t_Same af_s_Same_Same af_s_Same_Same), (kit_own af_i_Spent af_t_Spent af_s_Same_Spent af_s_Same_Same), (kit_own af_i_Twice af_t_Twice af_s_Same_Twice af_s_Same_Same), (kit_own af_i_TooMany af_t_TooMany af_s_Same_TooMany af_s_Same_Same), (kit_own af_i_RowsError af_t_RowsError af_s_Same_RowsError af_s_Same_Same), (kit_own af_i_Absent af_t_Absent af_s_Same_Absent af_s_Same_Same), (kit_own af_i_Barred af_t_Barred af_s_Same_Barred af_s_Same_Same), (kit_blt (by decide +kernel) af_s_Same_ValueError), (kit_blt (by decide +kernel) af_s_Same_LookupError), (kit_blt (by decide +kernel) af_s_Same_RuntimeError), (kit_blt (by decide +kernel) af_s_Same_ArithmeticError), af_k_Spent, ⟨af_ai_Spent, af_ao_Spent, af_ed_Spent, af_sa_Spent, af_b_Spent, af_t_Spent, af_k_Spent⟩, af_n_Spent_letter, af_eg_Spent, af_ek_Spent, af_ed_Spent, af_b_Spent, af_t_Spent, af_ea_Spent, af_em_Spent, (kit_own af_i_NoNumber af_t_NoNumber af_s_Spent_NoNumber af_s_Spent_Spent), (kit_own af_i_NoPlace af_t_NoPlace af_s_Spent_NoPlace af_s_Spent_Spent), (kit_own af_i_NoOrder af_t_NoOrder af_s_Spent_NoOrder af_s_Spent_Spent), (kit_own af_i_NoPattern af_t_NoPattern af_s_Spent_NoPattern af_s_Spent_Spent), (kit_own af_i_NoLetter af_t_NoLetter af_s_Spent_NoLetter af_s_Spent_Spent), (kit_own af_i_NoTicket af_t_NoTicket af_s_Spent_NoTicket af_s_Spent_Spent), (kit_own af_i_NoSize af_t_NoSize af_s_Spent_NoSize af_s_Spent_Spent), (kit_own af_i_NoEnd af_t_NoEnd af_s_Spent_NoEnd af_s_Spent_Spent), (kit_own af_i_NoDeed af_t_NoDeed af_s_Spent_NoDeed af_s_Spent_Spent), (kit_own af_i_NoText af_t_NoText af_s_Spent_NoText af_s_Spent_Spent), (kit_own af_i_NoRow af_t_NoRow af_s_Spent_NoRow af_s_Spent_Spent), (kit_own af_i_NoForm af_t_NoForm af_s_Spent_NoForm af_s_Spent_Spent), (kit_own af_i_Halted af_t_Halted af_s_Spent_Halted af_s_Spent_Spent), (kit_own af_i_NoBack af_t_NoBack af_s_Spent_NoBack af_s_Spent_Spent), (kit_own af_i_NoSuch af_t_NoSuch af_s_Spent_NoSuch af_s_Spent_Spent), (kit_own af_i_NoStream af_t_NoStream af_s_Spent_NoStream af_s_Spent_Spent), (kit_own af_i_Busy af_t_Busy af_s_Spent_Busy af_s_Spent_Spent), (kit_own af_i_Taken af_t_Taken af_s_Spent_Taken af_s_Spent_Spent), (kit_own af_i_Same af_t_Same af_s_Spent_Same af_s_Spent_Spent), (kit_own af_i_Spent af_t_Spent af_s_Spent_Spent af_s_Spent_Spent), (kit_own af_i_Twice af_t_Twice af_s_Spent_Twice af_s_Spent_Spent), (kit_own af_i_TooMany af_t_TooMany af_s_Spent_TooMany af_s_Spent_Spent), (kit_own af_i_RowsError af_t_RowsError af_s_Spent_RowsError af_s_Spent_Spent), (kit_own af_i_Absent af_t_Absent af_s_Spent_Absent af_s_Spent_Spent), (kit_own af_i_Barred af_t_Barred af_s_Spent_Barred af_s_Spent_Spent), (kit_blt (by decide +kernel) af_s_Spent_ValueError), (kit_blt (by decide +kernel) af_s_Spent_LookupError), (kit_blt (by decide +kernel) af_s_Spent_RuntimeError), (kit_blt (by decide +kernel) af_s_Spent_ArithmeticError), af_k_Twice, ⟨af_ai_Twice, af_ao_Twice, af_ed_Twice, af_sa_Twice, af_b_Twice, af_t_Twice, af_k_Twice⟩, af_n_Twice_ticket, af_eg_Twice, af_ek_Twice, af_ed_Twice, af_b_Twice, af_t_Twice, af_ea_Twice, af_em_Twice, (kit_own af_i_NoNumber af_t_NoNumber af_s_Twice_NoNumber af_s_Twice_Twice), (kit_own af_i_NoPlace af_t_NoPlace af_s_Twice_NoPlace af_s_Twice_Twice), (kit_own af_i_NoOrder af_t_NoOrder af_s_Twice_NoOrder af_s_Twice_Twice), (kit_own af_i_NoPattern af_t_NoPattern af_s_Twice_NoPattern af_s_Twice_Twice), (kit_own af_i_NoLetter af_t_NoLetter af_s_Twice_NoLetter af_s_Twice_Twice), (kit_own af_i_NoTicket af_t_NoTicket af_s_Twice_NoTicket af_s_Twice_Twice), (kit_own af_i_NoSize af_t_NoSize af_s_Twice_NoSize af_s_Twice_Twice), (kit_own af_i_NoEnd af_t_NoEnd af_s_Twice_NoEnd af_s_Twice_Twice), (kit_own af_i_NoDeed af_t_NoDeed af_s_Twice_NoDeed af_s_Twice_Twice), (kit_own af_i_NoText af_t_NoText af_s_Twice_NoText af_s_Twice_Twice), (kit_own af_i_NoRow af_t_NoRow af_s_Twice_NoRow af_s_Twice_Twice), (kit_own af_i_NoForm af_t_NoForm af_s_Twice_NoForm af_s_Twice_Twice), (kit_own af_i_Halted af_t_Halted af_s_Twice_Halted af_s_Twice_Twice), (kit_own af_i_NoBack af_t_NoBack af_s_Twice_NoBack af_s_Twice_Twice), (kit_own af_i_NoSuch af_t_NoSuch af_s_Twice_NoSuch af_s_Twice_Twice), (kit_own af_i_NoStream af_t_NoStream af_s_Twice_NoStream af_s_Twice_Twice), (kit_own af_i_Busy af_t_Busy af_s_Twice_Busy af_s_Twice_Twice), (kit_own af_i_Taken af_t_Taken af_s_Twice_Taken af_s_Twice_Twice), (kit_own af_i_Same af_t_Same af_s_Twice_Same af_s_Twice_Twice), (kit_own af_i_Spent af_t_Spent af_s_Twice_Spent af_s_Twice_Twice), (kit_own af_i_Twice af_t_Twice af_s_Twice_Twice af_s_Twice_Twice), (kit_own af_i_TooMany af_t_TooMany af_s_Twice_TooMany af_s_Twice_Twice), (kit_own af_i_RowsError af_t_RowsError af_s_Twice_RowsError af_s_Twice_Twice), (kit_own af_i_Absent af_t_Absent af_s_Twice_Absent af_s_Twice_Twice), (kit_own af_i_Barred af_t_Barred af_s_Twice_Barred af_s_Twice_Twice), (kit_blt (by decide +kernel) af_s_Twice_ValueError), (kit_blt (by decide +kernel) af_s_Twice_LookupError), (kit_blt (by decide +kernel) af_s_Twice_RuntimeError), (kit_blt (by decide +kernel) af_s_Twice_ArithmeticError), af_k_TooMany, ⟨af_ai_TooMany, af_ao_TooMany, af_ed_TooMany, af_sa_TooMany, af_b_TooMany, af_t_TooMany, af_k_TooMany⟩, af_n_TooMany_tickets, af_n_TooMany_lines, af_fv_ArithmeticError, af_eg_TooMany, af_ek_TooMany, af_ed_TooMany, af_b_TooMany, af_t_TooMany, af_ea_TooMany, af_em_TooMany, (kit_own af_i_NoNumber af_t_NoNumber af_s_TooMany_NoNumber af_s_TooMany_TooMany), (kit_own af_i_NoPlace af_t_NoPlace af_s_TooMany_NoPlace af_s_TooMany_TooMany), (kit_own af_i_NoOrder af_t_NoOrder af_s_TooMany_NoOrder af_s_TooMany_TooMany), (kit_own af_i_NoPattern af_t_NoPattern af_s_TooMany_NoPattern af_s_TooMany_TooMany), (kit_own af_i_NoLetter af_t_NoLetter af_s_TooMany_NoLetter af_s_TooMany_TooMany), (kit_own af_i_NoTicket af_t_NoTicket af_s_TooMany_NoTicket af_s_TooMany_TooMany), (kit_own af_i_NoSize af_t_NoSize af_s_TooMany_NoSize af_s_TooMany_TooMany), (kit_own af_i_NoEnd af_t_NoEnd af_s_TooMany_NoEnd af_s_TooMany_TooMany), (kit_own af_i_NoDeed af_t_NoDeed af_s_TooMany_NoDeed af_s_TooMany_TooMany), (kit_own af_i_NoText af_t_NoText af_s_TooMany_NoText af_s_TooMany_TooMany), (kit_own af_i_NoRow af_t_NoRow af_s_TooMany_NoRow af_s_TooMany_TooMany), (kit_own af_i_NoForm af_t_NoForm af_s_TooMany_NoForm af_s_TooMany_TooMany), (kit_own af_i_Halted af_t_Halted af_s_TooMany_Halted af_s_TooMany_TooMany), (kit_own af_i_NoBack af_t_NoBack af_s_TooMany_NoBack af_s_TooMany_TooMany), (kit_own af_i_NoSuch af_t_NoSuch af_s_TooMany_NoSuch af_s_TooMany_TooMany), (kit_own af_i_NoStream af_t_NoStream af_s_TooMany_NoStream af_s_TooMany_TooMany), (kit_own af_i_Busy af_t_Busy af_s_TooMany_Busy af_s_TooMany_TooMany), (kit_own af_i_Taken af_t_Taken af_s_TooMany_Taken af_s_TooMany_TooMany), (kit_own af_i_Same af_t_Same af_s_TooMany_Same af_s_TooMany_TooMany), (kit_own af_i_Spent af_t_Spent af_s_TooMany_Spent af_s_TooMany_TooMany), (kit_own af_i_Twice af_t_Twice af_s_TooMany_Twice af_s_TooMany_TooMany), (kit_own af_i_TooMany af_t_TooMany af_s_TooMany_TooMany af_s_TooMany_TooMany), (kit_own af_i_RowsError af_t_RowsError af_s_TooMany_RowsError af_s_TooMany_TooMany), (kit_own af_i_Absent af_t_Absent af_s_TooMany_Absent af_s_TooMany_TooMany), (kit_own af_i_Barred af_t_Barred af_s_TooMany_Barred af_s_TooMany_TooMany), (kit_blt (by decide +kernel) af_s_TooMany_ValueError), (kit_blt (by decide +kernel) af_s_TooMany_LookupError), (kit_blt (by decide +kernel) af_s_TooMany_RuntimeError), (kit_blt (by decide +kernel) af_s_TooMany_ArithmeticError), af_en_, af_et_⟩
  have ebase : mg "law" = some (.ref f_law) := PySem.W.mg_of X G a_law
  have e := hfa.symm.trans ebase
  cases e
  have F_L_pot := fun_mk (st := s_L_pot) l_L_pot c_L_pot k_L_pot
  have b_L_pot := F_L_pot.binds (ps := ["_law_script", "_law_k"]) fun _ _ _ _ _ _ us hl => match us, hl with | [_, _], _ => rfl
  have F_L_digit := fun_mk (st := s_L_digit) l_L_digit c_L_digit k_L_digit
  have b_L_digit := F_L_digit.binds (ps := ["_law_pot_here", "_law_many"]) fun _ _ _ _ _ _ us hl => match us, hl with | [_, _], _ => rfl
  have F_L_kinds := fun_mk (st := s_L_kinds) l_L_kinds c_L_kinds k_L_kinds
  have b_L_kinds := F_L_kinds.binds (ps := ["_law_e"]) fun _ _ _ _ _ _ us hl => match us, hl with | [_], _ => rfl
  have F_L_bases := fun_mk (st := s_L_bases) l_L_bases c_L_bases k_L_bases
  have b_L_bases := F_L_bases.binds (ps := ["_law_e"]) fun _ _ _ _ _ _ us hl => match us, hl with | [_], _ => rfl
  have F_L_are_right := fun_mk (st := s_L_are_right) l_L_are_right c_L_are_right k_L_are_right
  have b_L_are_right := F_L_are_right.binds (ps := ["_law_made"]) fun _ _ _ _ _ _ us hl => match us, hl with | [_], _ => rfl
  have F_law := fun_mk (st := s_law) l_law c_law k_law
  refine ⟨PySem.W.fnOf "law" "law" (defArgs s_law) (defBody s_law) (defScope s_law) .none kV_law dc_law pm_law an_law cd_law ct_law, fun s v => .of_eq rfl, GG K ⟨0, cl_NoNumber, cl_NoPlace, cl_NoOrder, cl_NoPattern, cl_NoLetter, cl_NoTicket, cl_NoSize, cl_NoEnd, cl_NoDeed, cl_NoText, cl_NoRow, cl_NoForm, cl_Halted, cl_NoBack, cl_NoSuch, cl_NoStream, cl_Busy, cl_Taken, cl_Same, cl_Spent, cl_Twice, cl_TooMany, cl_RowsError, cl_Absent, cl_Barred⟩, rfl, fun base _ _ => ?_⟩
  have Q_NoForm : XaI P w K mg base "ValueError.__new__" [.type "ValueError", .type "Exception", .type "BaseException", .type "object"] cl_NoForm ["what"] ["self", "what"] fi_NoForm _ := ⟨ce.o_NoForm, iC_NoForm, tI_NoForm, xn_NoForm bn ce li_NoForm ci_NoForm, fun s us _ hl => match us, hl with | [_, _], _ => .of_eq (fd := PySem.W.fnOf "__init__" "NoForm.__init__" (defArgs si_NoForm) (defBody si_NoForm) (defScope si_NoForm) .none kVi_NoForm dci_NoForm pmi_NoForm ani_NoForm cdi_NoForm cti_NoForm) rfl⟩
  have Q_Halted : XaI P w K mg base "ValueError.__new__" [.type "ValueError", .type "Exception", .type "BaseException", .type "object"] cl_Halted ["number", "answers"] ["self", "number", "answers"] fi_Halted _ := ⟨ce.o_Halted, iC_Halted, tI_Halted, xn_Halted bn ce li_Halted ci_Halted, fun s us _ hl => match us, hl with | [_, _, _], _ => .of_eq (fd := PySem.W.fnOf "__init__" "Halted.__init__" (defArgs si_Halted) (defBody si_Halted) (defScope si_Halted) .none kVi_Halted dci_Halted pmi_Halted ani_Halted cdi_Halted cti_Halted) rfl⟩
  have Q_NoSuch : XaI P w K mg base "LookupError.__new__" [.type "LookupError", .type "Exception", .type "BaseException", .type "object"] cl_NoSuch ["name"] ["self", "name"] fi_NoSuch _ := ⟨ce.o_NoSuch, iC_NoSuch, tI_NoSuch, xn_NoSuch bn ce li_NoSuch ci_NoSuch, fun s us _ hl => match us, hl with | [_, _], _ => .of_eq (fd := PySem.W.fnOf "__init__" "NoSuch.__init__" (defArgs si_NoSuch) (defBody si_NoSuch) (defScope si_NoSuch) .none kVi_NoSuch dci_NoSuch pmi_NoSuch ani_NoSuch cdi_NoSuch cti_NoSuch) rfl⟩
  have Q_NoStream : XaI P w K mg base "LookupError.__new__" [.type "LookupError", .type "Exception", .type "BaseException", .type "object"] cl_NoStream ["letter"] ["self", "letter"] fi_NoStream _ := ⟨ce.o_NoStream, iC_NoStream, tI_NoStream, xn_NoStream bn ce li_NoStream ci_NoStream, fun s us _ hl => match us, hl with | [_, _], _ => .of_eq (fd := PySem.W.fnOf "__init__" "NoStream.__init__" (defArgs si_NoStream) (defBody si_NoStream) (defScope si_NoStream) .none kVi_NoStream dci_NoStream pmi_NoStream ani_NoStream cdi_NoStream cti_NoStream) rfl⟩
  have Q_Taken : XaI P w K mg base "RuntimeError.__new__" [.type "RuntimeError", .type "Exception", .type "BaseException", .type "object"] cl_Taken ["name"] ["self", "name"] fi_Taken _ := ⟨ce.o_Taken, iC_Taken, tI_Taken, xn_Taken bn ce li_Taken ci_Taken, fun s us _ hl => match us, hl with | [_, _], _ => .of_eq (fd := PySem.W.fnOf "__init__" "Taken.__init__" (defArgs si_Taken) (defBody si_Taken) (defScope si_Taken) .none kVi_Taken dci_Taken pmi_Taken ani_Taken cdi_Taken cti_Taken) rfl⟩
  have Q_Same : XaI P w K mg base "RuntimeError.__new__" [.type "RuntimeError", .type "Exception", .type "BaseException", .type "object"] cl_Same ["name"] ["self", "name"] fi_Same _ := ⟨ce.o_Same, iC_Same, tI_Same, xn_Same bn ce li_Same ci_Same, fun s us _ hl => match us, hl with | [_, _], _ => .of_eq (fd := PySem.W.fnOf "__init__" "Same.__init__" (defArgs si_Same) (defBody si_Same) (defScope si_Same) .none kVi_Same dci_Same pmi_Same ani_Same cdi_Same cti_Same) rfl⟩
  have Q_Spent : XaI P w K mg base "RuntimeError.__new__" [.type "RuntimeError", .type "Exception", .type "BaseException", .type "object"] cl_Spent ["letter"] ["self", "letter"] fi_Spent _ := ⟨ce.o_Spent, iC_Spent, tI_Spent, xn_Spent bn ce li_Spent ci_Spent, fun s us _ hl => match us, hl with | [_, _], _ => .of_eq (fd := PySem.W.fnOf "__init__" "Spent.__init__" (defArgs si_Spent) (defBody si_Spent) (defScope si_Spent) .none kVi_Spent dci_Spent pmi_Spent ani_Spent cdi_Spent cti_Spent) rfl⟩
  have Q_Twice : XaI P w K mg base "RuntimeError.__new__" [.type "RuntimeError", .type "Exception", .type "BaseException", .type "object"] cl_Twice ["ticket"] ["self", "ticket"] fi_Twice _ := ⟨ce.o_Twice, iC_Twice, tI_Twice, xn_Twice bn ce li_Twice ci_Twice, fun s us _ hl => match us, hl with | [_, _], _ => .of_eq (fd := PySem.W.fnOf "__init__" "Twice.__init__" (defArgs si_Twice) (defBody si_Twice) (defScope si_Twice) .none kVi_Twice dci_Twice pmi_Twice ani_Twice cdi_Twice cti_Twice) rfl⟩
  have Q_TooMany : XaI P w K mg base "ArithmeticError.__new__" [.type "ArithmeticError", .type "Exception", .type "BaseException", .type "object"] cl_TooMany ["tickets", "lines"] ["self", "tickets", "lines"] fi_TooMany _ := ⟨ce.o_TooMany, iC_TooMany, tI_TooMany, xn_TooMany bn ce li_TooMany ci_TooMany, fun s us _ hl => match us, hl with | [_, _, _], _ => .of_eq (fd := PySem.W.fnOf "__init__" "TooMany.__init__" (defArgs si_TooMany) (defBody si_TooMany) (defScope si_TooMany) .none kVi_TooMany dci_TooMany pmi_TooMany ani_TooMany cdi_TooMany cti_TooMany) rfl⟩
  have G_L_pot := fn_p (P := P) (w := w) (mg := mg) (base := base) (G := GG K ⟨0, cl_NoNumber, cl_NoPlace, cl_NoOrder, cl_NoPattern, cl_NoLetter, cl_NoTicket, cl_NoSize, cl_NoEnd, cl_NoDeed, cl_NoText, cl_NoRow, cl_NoForm, cl_Halted, cl_NoBack, cl_NoSuch, cl_NoStream, cl_Busy, cl_Taken, cl_Same, cl_Spent, cl_Twice, cl_TooMany, cl_RowsError, cl_Absent, cl_Barred⟩) (XR := XR0) (k := 0) F_L_pot sc_L_pot (Φ := P_L_pot) (fun _ _ h => h) (fun cdv A outer s H E hr hg => der_L_pot bn cn ce   cdv A outer s H E hr hg)
  have I_L_pot : FnI P w K mg base "_law_pot" 1 ["_law_script", "_law_k"] (spP (GG K ⟨0, cl_NoNumber, cl_NoPlace, cl_NoOrder, cl_NoPattern, cl_NoLetter, cl_NoTicket, cl_NoSize, cl_NoEnd, cl_NoDeed, cl_NoText, cl_NoRow, cl_NoForm, cl_Halted, cl_NoBack, cl_NoSuch, cl_NoStream, cl_Busy, cl_Taken, cl_Same, cl_Spent, cl_Twice, cl_TooMany, cl_RowsError, cl_Absent, cl_Barred⟩) XR0 2 P_L_pot) f_L_pot _ := ⟨G_L_pot, PySem.W.mg_of X G a_L_pot, k_L_pot, b_L_pot⟩
  have G_L_digit := fn_m (P := P) (w := w) (mg := mg) (base := base) (G := GG K ⟨0, cl_NoNumber, cl_NoPlace, cl_NoOrder, cl_NoPattern, cl_NoLetter, cl_NoTicket, cl_NoSize, cl_NoEnd, cl_NoDeed, cl_NoText, cl_NoRow, cl_NoForm, cl_Halted, cl_NoBack, cl_NoSuch, cl_NoStream, cl_Busy, cl_Taken, cl_Same, cl_Spent, cl_Twice, cl_TooMany, cl_RowsError, cl_Absent, cl_Barred⟩) (XR := XR0) (k := 0) F_L_digit sc_L_digit (Φ := P_L_digit) (fun _ _ _ h => h) (fun cdv A outer s H E hr hg => der_L_digit bn cn ce   cdv A outer s H E hr hg)
  have I_L_digit : FnI P w K mg base "_law_digit" 1 ["_law_pot_here", "_law_many"] (spM (GG K ⟨0, cl_NoNumber, cl_NoPlace, cl_NoOrder, cl_NoPattern, cl_NoLetter, cl_NoTicket, cl_NoSize, cl_NoEnd, cl_NoDeed, cl_NoText, cl_NoRow, cl_NoForm, cl_Halted, cl_NoBack, cl_NoSuch, cl_NoStream, cl_Busy, cl_Taken, cl_Same, cl_Spent, cl_Twice, cl_TooMany, cl_RowsError, cl_Absent, cl_Barred⟩) XR0 2 P_L_digit) f_L_digit _ := ⟨G_L_digit, PySem.W.mg_of X G a_L_digit, k_L_digit, b_L_digit⟩
  have G_L_kinds := fn_p (P := P) (w := w) (mg := mg) (base := base) (G := GG K ⟨0, cl_NoNumber, cl_NoPlace, cl_NoOrder, cl_NoPattern, cl_NoLetter, cl_NoTicket, cl_NoSize, cl_NoEnd, cl_NoDeed, cl_NoText, cl_NoRow, cl_NoForm, cl_Halted, cl_NoBack, cl_NoSuch, cl_NoStream, cl_Busy, cl_Taken, cl_Same, cl_Spent, cl_Twice, cl_TooMany, cl_RowsError, cl_Absent, cl_Barred⟩) (XR := XR0) (k := 0) F_L_kinds sc_L_kinds (Φ := P_L_kinds) (fun _ _ h => h) (fun cdv A outer s H E hr hg => der_L_kinds bn cn ce   cdv A outer s H E hr hg)
  have I_L_kinds : FnI P w K mg base "_law_kinds" 1 ["_law_e"] (spP (GG K ⟨0, cl_NoNumber, cl_NoPlace, cl_NoOrder, cl_NoPattern, cl_NoLetter, cl_NoTicket, cl_NoSize, cl_NoEnd, cl_NoDeed, cl_NoText, cl_NoRow, cl_NoForm, cl_Halted, cl_NoBack, cl_NoSuch, cl_NoStream, cl_Busy, cl_Taken, cl_Same, cl_Spent, cl_Twice, cl_TooMany, cl_RowsError, cl_Absent, cl_Barred⟩) XR0 1 P_L_kinds) f_L_kinds _ := ⟨G_L_kinds, PySem.W.mg_of X G a_L_kinds, k_L_kinds, b_L_kinds⟩
  have G_L_bases := fn_p (P := P) (w := w) (mg := mg) (base := base) (G := GG K ⟨0, cl_NoNumber, cl_NoPlace, cl_NoOrder, cl_NoPattern, cl_NoLetter, cl_NoTicket, cl_NoSize, cl_NoEnd, cl_NoDeed, cl_NoText, cl_NoRow, cl_NoForm, cl_Halted, cl_NoBack, cl_NoSuch, cl_NoStream, cl_Busy, cl_Taken, cl_Same, cl_Spent, cl_Twice, cl_TooMany, cl_RowsError, cl_Absent, cl_Barred⟩) (XR := XR0) (k := 0) F_L_bases sc_L_bases (Φ := P_L_bases) (fun _ _ h => h) (fun cdv A outer s H E hr hg => der_L_bases bn cn ce   cdv A outer s H E hr hg)
  have I_L_bases : FnI P w K mg base "_law_bases" 1 ["_law_e"] (spP (GG K ⟨0, cl_NoNumber, cl_NoPlace, cl_NoOrder, cl_NoPattern, cl_NoLetter, cl_NoTicket, cl_NoSize, cl_NoEnd, cl_NoDeed, cl_NoText, cl_NoRow, cl_NoForm, cl_Halted, cl_NoBack, cl_NoSuch, cl_NoStream, cl_Busy, cl_Taken, cl_Same, cl_Spent, cl_Twice, cl_TooMany, cl_RowsError, cl_Absent, cl_Barred⟩) XR0 1 P_L_bases) f_L_bases _ := ⟨G_L_bases, PySem.W.mg_of X G a_L_bases, k_L_bases, b_L_bases⟩
  have G_L_are_right := fn_p (P := P) (w := w) (mg := mg) (base := base) (G := GG K ⟨0, cl_NoNumber, cl_NoPlace, cl_NoOrder, cl_NoPattern, cl_NoLetter, cl_NoTicket, cl_NoSize, cl_NoEnd, cl_NoDeed, cl_NoText, cl_NoRow, cl_NoForm, cl_Halted, cl_NoBack, cl_NoSuch, cl_NoStream, cl_Busy, cl_Taken, cl_Same, cl_Spent, cl_Twice, cl_TooMany, cl_RowsError, cl_Absent, cl_Barred⟩) (XR := XR0) (k := 1) F_L_are_right sc_L_are_right (Φ := P_L_are_right) (fun _ _ h => h) (fun cdv A outer s H E hr hg => der_L_are_right bn cn ce I_L_kinds I_L_bases  cdv A outer s H E hr hg)
  have I_L_are_right : FnI P w K mg base "_law_are_right" 2 ["_law_made"] (spP (GG K ⟨0, cl_NoNumber, cl_NoPlace, cl_NoOrder, cl_NoPattern, cl_NoLetter, cl_NoTicket, cl_NoSize, cl_NoEnd, cl_NoDeed, cl_NoText, cl_NoRow, cl_NoForm, cl_Halted, cl_NoBack, cl_NoSuch, cl_NoStream, cl_Busy, cl_Taken, cl_Same, cl_Spent, cl_Twice, cl_TooMany, cl_RowsError, cl_Absent, cl_Barred⟩) XR0 1 P_L_are_right) f_L_are_right _ := ⟨G_L_are_right, PySem.W.mg_of X G a_L_are_right, k_L_are_right, b_L_are_right⟩
  have G_law := fn_p (P := P) (w := w) (mg := mg) (base := base) (G := GG K ⟨0, cl_NoNumber, cl_NoPlace, cl_NoOrder, cl_NoPattern, cl_NoLetter, cl_NoTicket, cl_NoSize, cl_NoEnd, cl_NoDeed, cl_NoText, cl_NoRow, cl_NoForm, cl_Halted, cl_NoBack, cl_NoSuch, cl_NoStream, cl_Busy, cl_Taken, cl_Same, cl_Spent, cl_Twice, cl_TooMany, cl_RowsError, cl_Absent, cl_Barred⟩) (XR := XR0) (k := 2) F_law sc_law (Φ := P_law) (fun _ _ h => h) (fun cdv A outer s H E hr hg => der_law bn cn ce I_L_pot I_L_digit I_L_are_right Q_NoForm Q_Halted Q_NoSuch Q_NoStream Q_Taken Q_Same Q_Spent Q_Twice Q_TooMany cdv A outer s H E hr hg)
  exact G_law
end K18
open PySem PySem.W PyProof.Rows
set_option maxRecDepth 100000 in
set_option maxHeartbeats 0 in
theorem PySem.Challenge.cw_ticketrows_k18_refusals_told_apart_holds : PySem.Challenge.rw_ticketrows_k18_refusals_told_apart.Holds := by
  w_on; o_law; k_head; (case hw => w_witness2)
  k_fill
  refine Tk.walk_x (l := PySem.Challenge.rw_ticketrows_k18_refusals_told_apart) (n := 63) (k := 3) (x := "_law_script") (Φ := K18.P_law) rfl (by decide) rfl ⟨rfl, by decide, by decide⟩ (fun w h Y => PySem.W.kIn_of Y) ?F K18.law_true
  case F =>
    intro w mg fa h KX G hmg
    refine' K18.all_mk KX G hmg ?a_L_pot ?l_L_pot ?c_L_pot ?k_L_pot ?a_L_digit ?l_L_digit ?c_L_digit ?k_L_digit ?a_L_kinds ?l_L_kinds ?c_L_kinds ?k_L_kinds ?a_L_bases ?l_L_bases ?c_L_bases ?k_L_bases ?a_L_are_right ?l_L_are_right ?c_L_are_right ?k_L_are_right ?a_law ?l_law ?c_law ?k_law ?ag_NoNumber ?ag_NoPlace ?ag_NoOrder ?ag_NoPattern ?ag_NoLetter ?ag_NoTicket ?ag_NoSize ?ag_NoEnd ?ag_NoDeed ?ag_NoText ?ag_NoRow ?ag_NoForm ?ag_Halted ?ag_NoBack ?ag_NoSuch ?ag_NoStream ?ag_Busy ?ag_Taken ?ag_Same ?ag_Spent ?ag_Twice ?ag_TooMany ?ag_RowsError ?ag_Absent ?ag_Barred ?iC_NoForm ?tI_NoForm ?li_NoForm ?ci_NoForm ?iC_Halted ?tI_Halted ?li_Halted ?ci_Halted ?iC_NoSuch ?tI_NoSuch ?li_NoSuch ?ci_NoSuch ?iC_NoStream ?tI_NoStream ?li_NoStream ?ci_NoStream ?iC_Taken ?tI_Taken ?li_Taken ?ci_Taken ?iC_Same ?tI_Same ?li_Same ?ci_Same ?iC_Spent ?tI_Spent ?li_Spent ?ci_Spent ?iC_Twice ?tI_Twice ?li_Twice ?ci_Twice ?iC_TooMany ?tI_TooMany ?li_TooMany ?ci_TooMany ?af_k_NoNumber ?af_x_NoNumber ?af_b_NoNumber ?af_t_NoNumber ?af_eg_NoNumber ?af_ek_NoNumber ?af_ed_NoNumber ?af_ea_NoNumber ?af_em_NoNumber ?af_i_NoNumber ?af_s_NoNumber_NoNumber ?af_i_NoPlace ?af_t_NoPlace ?af_s_NoNumber_NoPlace ?af_i_NoOrder ?af_t_NoOrder ?af_s_NoNumber_NoOrder ?af_i_NoPattern ?af_t_NoPattern ?af_s_NoNumber_NoPattern ?af_i_NoLetter ?af_t_NoLetter ?af_s_NoNumber_NoLetter ?af_i_NoTicket ?af_t_NoTicket ?af_s_NoNumber_NoTicket ?af_i_NoSize ?af_t_NoSize ?af_s_NoNumber_NoSize ?af_i_NoEnd ?af_t_NoEnd ?af_s_NoNumber_NoEnd ?af_i_NoDeed ?af_t_NoDeed ?af_s_NoNumber_NoDeed ?af_i_NoText ?af_t_NoText ?af_s_NoNumber_NoText ?af_i_NoRow ?af_t_NoRow ?af_s_NoNumber_NoRow ?af_i_NoForm ?af_t_NoForm ?af_s_NoNumber_NoForm ?af_i_Halted ?af_t_Halted ?af_s_NoNumber_Halted ?af_i_NoBack ?af_t_NoBack ?af_s_NoNumber_NoBack ?af_i_NoSuch ?af_t_NoSuch ?af_s_NoNumber_NoSuch ?af_i_NoStream ?af_t_NoStream ?af_s_NoNumber_NoStream ?af_i_Busy ?af_t_Busy ?af_s_NoNumber_Busy ?af_i_Taken ?af_t_Taken ?af_s_NoNumber_Taken ?af_i_Same ?af_t_Same ?af_s_NoNumber_Same ?af_i_Spent ?af_t_Spent ?af_s_NoNumber_Spent ?af_i_Twice ?af_t_Twice ?af_s_NoNumber_Twice ?af_i_TooMany ?af_t_TooMany ?af_s_NoNumber_TooMany ?af_i_RowsError ?af_t_RowsError ?af_s_NoNumber_RowsError ?af_i_Absent ?af_t_Absent ?af_s_NoNumber_Absent ?af_i_Barred ?af_t_Barred ?af_s_NoNumber_Barred ?af_s_NoNumber_ValueError ?af_s_NoNumber_LookupError ?af_s_NoNumber_RuntimeError ?af_s_NoNumber_ArithmeticError ?af_k_NoPlace ?af_x_NoPlace ?af_b_NoPlace ?af_eg_NoPlace ?af_ek_NoPlace ?af_ed_NoPlace ?af_ea_NoPlace ?af_em_NoPlace ?af_s_NoPlace_NoNumber ?af_s_NoPlace_NoPlace ?af_s_NoPlace_NoOrder ?af_s_NoPlace_NoPattern ?af_s_NoPlace_NoLetter ?af_s_NoPlace_NoTicket ?af_s_NoPlace_NoSize ?af_s_NoPlace_NoEnd ?af_s_NoPlace_NoDeed ?af_s_NoPlace_NoText ?af_s_NoPlace_NoRow ?af_s_NoPlace_NoForm ?af_s_NoPlace_Halted ?af_s_NoPlace_NoBack ?af_s_NoPlace_NoSuch ?af_s_NoPlace_NoStream ?af_s_NoPlace_Busy ?af_s_NoPlace_Taken ?af_s_NoPlace_Same ?af_s_NoPlace_Spent ?af_s_NoPlace_Twice ?af_s_NoPlace_TooMany ?af_s_NoPlace_RowsError ?af_s_NoPlace_Absent ?af_s_NoPlace_Barred ?af_s_NoPlace_ValueError ?af_s_NoPlace_LookupError ?af_s_NoPlace_RuntimeError ?af_s_NoPlace_ArithmeticError ?af_k_NoOrder ?af_x_NoOrder ?af_b_NoOrder ?af_eg_NoOrder ?af_ek_NoOrder ?af_ed_NoOrder ?af_ea_NoOrder ?af_em_NoOrder ?af_s_NoOrder_NoNumber ?af_s_NoOrder_NoOrder ?af_s_NoOrder_NoPlace ?af_s_NoOrder_NoPattern ?af_s_NoOrder_NoLetter ?af_s_NoOrder_NoTicket ?af_s_NoOrder_NoSize ?af_s_NoOrder_NoEnd ?af_s_NoOrder_NoDeed ?af_s_NoOrder_NoText ?af_s_NoOrder_NoRow ?af_s_NoOrder_NoForm ?af_s_NoOrder_Halted ?af_s_NoOrder_NoBack ?af_s_NoOrder_NoSuch ?af_s_NoOrder_NoStream ?af_s_NoOrder_Busy ?af_s_NoOrder_Taken ?af_s_NoOrder_Same ?af_s_NoOrder_Spent ?af_s_NoOrder_Twice ?af_s_NoOrder_TooMany ?af_s_NoOrder_RowsError ?af_s_NoOrder_Absent ?af_s_NoOrder_Barred ?af_s_NoOrder_ValueError ?af_s_NoOrder_LookupError ?af_s_NoOrder_RuntimeError ?af_s_NoOrder_ArithmeticError ?af_k_NoPattern ?af_x_NoPattern ?af_b_NoPattern ?af_eg_NoPattern ?af_ek_NoPattern ?af_ed_NoPattern ?af_ea_NoPattern ?af_em_NoPattern ?af_s_NoPattern_NoNumber ?af_s_NoPattern_NoPattern ?af_s_NoPattern_NoPlace ?af_s_NoPattern_NoOrder ?af_s_NoPattern_NoLetter ?af_s_NoPattern_NoTicket ?af_s_NoPattern_NoSize ?af_s_NoPattern_NoEnd ?af_s_NoPattern_NoDeed ?af_s_NoPattern_NoText ?af_s_NoPattern_NoRow ?af_s_NoPattern_NoForm ?af_s_NoPattern_Halted ?af_s_NoPattern_NoBack ?af_s_NoPattern_NoSuch ?af_s_NoPattern_NoStream ?af_s_NoPattern_Busy ?af_s_NoPattern_Taken ?af_s_NoPattern_Same ?af_s_NoPattern_Spent ?af_s_NoPattern_Twice ?af_s_NoPattern_TooMany ?af_s_NoPattern_RowsError ?af_s_NoPattern_Absent ?af_s_NoPattern_Barred ?af_s_NoPattern_ValueError ?af_s_NoPattern_LookupError ?af_s_NoPattern_RuntimeError ?af_s_NoPattern_ArithmeticError ?af_k_NoLetter ?af_x_NoLetter ?af_b_NoLetter ?af_eg_NoLetter ?af_ek_NoLetter ?af_ed_NoLetter ?af_ea_NoLetter ?af_em_NoLetter ?af_s_NoLetter_NoNumber ?af_s_NoLetter_NoLetter ?af_s_NoLetter_NoPlace ?af_s_NoLetter_NoOrder ?af_s_NoLetter_NoPattern ?af_s_NoLetter_NoTicket ?af_s_NoLetter_NoSize ?af_s_NoLetter_NoEnd ?af_s_NoLetter_NoDeed ?af_s_NoLetter_NoText ?af_s_NoLetter_NoRow ?af_s_NoLetter_NoForm ?af_s_NoLetter_Halted ?af_s_NoLetter_NoBack ?af_s_NoLetter_NoSuch ?af_s_NoLetter_NoStream ?af_s_NoLetter_Busy ?af_s_NoLetter_Taken ?af_s_NoLetter_Same ?af_s_NoLetter_Spent ?af_s_NoLetter_Twice ?af_s_NoLetter_TooMany ?af_s_NoLetter_RowsError ?af_s_NoLetter_Absent ?af_s_NoLetter_Barred ?af_s_NoLetter_ValueError ?af_s_NoLetter_LookupError ?af_s_NoLetter_RuntimeError ?af_s_NoLetter_ArithmeticError ?af_k_NoTicket ?af_x_NoTicket ?af_b_NoTicket ?af_eg_NoTicket ?af_ek_NoTicket ?af_ed_NoTicket ?af_ea_NoTicket ?af_em_NoTicket ?af_s_NoTicket_NoNumber ?af_s_NoTicket_NoTicket ?af_s_NoTicket_NoPlace ?af_s_NoTicket_NoOrder ?af_s_NoTicket_NoPattern ?af_s_NoTicket_NoLetter ?af_s_NoTicket_NoSize ?af_s_NoTicket_NoEnd ?af_s_NoTicket_NoDeed ?af_s_NoTicket_NoText ?af_s_NoTicket_NoRow ?af_s_NoTicket_NoForm ?af_s_NoTicket_Halted ?af_s_NoTicket_NoBack ?af_s_NoTicket_NoSuch ?af_s_NoTicket_NoStream ?af_s_NoTicket_Busy ?af_s_NoTicket_Taken ?af_s_NoTicket_Same ?af_s_NoTicket_Spent ?af_s_NoTicket_Twice ?af_s_NoTicket_TooMany ?af_s_NoTicket_RowsError ?af_s_NoTicket_Absent ?af_s_NoTicket_Barred ?af_s_NoTicket_ValueError ?af_s_NoTicket_LookupError ?af_s_NoTicket_RuntimeError ?af_s_NoTicket_ArithmeticError ?af_k_NoSize ?af_x_NoSize ?af_b_NoSize ?af_eg_NoSize ?af_ek_NoSize ?af_ed_NoSize ?af_ea_NoSize ?af_em_NoSize ?af_s_NoSize_NoNumber ?af_s_NoSize_NoSize ?af_s_NoSize_NoPlace ?af_s_NoSize_NoOrder ?af_s_NoSize_NoPattern ?af_s_NoSize_NoLetter ?af_s_NoSize_NoTicket ?af_s_NoSize_NoEnd ?af_s_NoSize_NoDeed ?af_s_NoSize_NoText ?af_s_NoSize_NoRow ?af_s_NoSize_NoForm ?af_s_NoSize_Halted ?af_s_NoSize_NoBack ?af_s_NoSize_NoSuch ?af_s_NoSize_NoStream ?af_s_NoSize_Busy ?af_s_NoSize_Taken ?af_s_NoSize_Same ?af_s_NoSize_Spent ?af_s_NoSize_Twice ?af_s_NoSize_TooMany ?af_s_NoSize_RowsError ?af_s_NoSize_Absent ?af_s_NoSize_Barred ?af_s_NoSize_ValueError ?af_s_NoSize_LookupError ?af_s_NoSize_RuntimeError ?af_s_NoSize_ArithmeticError ?af_k_NoEnd ?af_x_NoEnd ?af_b_NoEnd ?af_eg_NoEnd ?af_ek_NoEnd ?af_ed_NoEnd ?af_ea_NoEnd ?af_em_NoEnd ?af_s_NoEnd_NoNumber ?af_s_NoEnd_NoEnd ?af_s_NoEnd_NoPlace ?af_s_NoEnd_NoOrder ?af_s_NoEnd_NoPattern ?af_s_NoEnd_NoLetter ?af_s_NoEnd_NoTicket ?af_s_NoEnd_NoSize ?af_s_NoEnd_NoDeed ?af_s_NoEnd_NoText ?af_s_NoEnd_NoRow ?af_s_NoEnd_NoForm ?af_s_NoEnd_Halted ?af_s_NoEnd_NoBack ?af_s_NoEnd_NoSuch ?af_s_NoEnd_NoStream ?af_s_NoEnd_Busy ?af_s_NoEnd_Taken ?af_s_NoEnd_Same ?af_s_NoEnd_Spent ?af_s_NoEnd_Twice ?af_s_NoEnd_TooMany ?af_s_NoEnd_RowsError ?af_s_NoEnd_Absent ?af_s_NoEnd_Barred ?af_s_NoEnd_ValueError ?af_s_NoEnd_LookupError ?af_s_NoEnd_RuntimeError ?af_s_NoEnd_ArithmeticError ?af_k_NoDeed ?af_x_NoDeed ?af_b_NoDeed ?af_eg_NoDeed ?af_ek_NoDeed ?af_ed_NoDeed ?af_ea_NoDeed ?af_em_NoDeed ?af_s_NoDeed_NoNumber ?af_s_NoDeed_NoDeed ?af_s_NoDeed_NoPlace ?af_s_NoDeed_NoOrder ?af_s_NoDeed_NoPattern ?af_s_NoDeed_NoLetter ?af_s_NoDeed_NoTicket ?af_s_NoDeed_NoSize ?af_s_NoDeed_NoEnd ?af_s_NoDeed_NoText ?af_s_NoDeed_NoRow ?af_s_NoDeed_NoForm ?af_s_NoDeed_Halted ?af_s_NoDeed_NoBack ?af_s_NoDeed_NoSuch ?af_s_NoDeed_NoStream ?af_s_NoDeed_Busy ?af_s_NoDeed_Taken ?af_s_NoDeed_Same ?af_s_NoDeed_Spent ?af_s_NoDeed_Twice ?af_s_NoDeed_TooMany ?af_s_NoDeed_RowsError ?af_s_NoDeed_Absent ?af_s_NoDeed_Barred ?af_s_NoDeed_ValueError ?af_s_NoDeed_LookupError ?af_s_NoDeed_RuntimeError ?af_s_NoDeed_ArithmeticError ?af_k_NoText ?af_x_NoText ?af_b_NoText ?af_eg_NoText ?af_ek_NoText ?af_ed_NoText ?af_ea_NoText ?af_em_NoText ?af_s_NoText_NoNumber ?af_s_NoText_NoText ?af_s_NoText_NoPlace ?af_s_NoText_NoOrder ?af_s_NoText_NoPattern ?af_s_NoText_NoLetter ?af_s_NoText_NoTicket ?af_s_NoText_NoSize ?af_s_NoText_NoEnd ?af_s_NoText_NoDeed ?af_s_NoText_NoRow ?af_s_NoText_NoForm ?af_s_NoText_Halted ?af_s_NoText_NoBack ?af_s_NoText_NoSuch ?af_s_NoText_NoStream ?af_s_NoText_Busy ?af_s_NoText_Taken ?af_s_NoText_Same ?af_s_NoText_Spent ?af_s_NoText_Twice ?af_s_NoText_TooMany ?af_s_NoText_RowsError ?af_s_NoText_Absent ?af_s_NoText_Barred ?af_s_NoText_ValueError ?af_s_NoText_LookupError ?af_s_NoText_RuntimeError ?af_s_NoText_ArithmeticError ?af_k_NoRow ?af_x_NoRow ?af_b_NoRow ?af_eg_NoRow ?af_ek_NoRow ?af_ed_NoRow ?af_ea_NoRow ?af_em_NoRow ?af_s_NoRow_NoNumber ?af_s_NoRow_NoRow ?af_s_NoRow_NoPlace ?af_s_NoRow_NoOrder ?af_s_NoRow_NoPattern ?af_s_NoRow_NoLetter ?af_s_NoRow_NoTicket ?af_s_NoRow_NoSize ?af_s_NoRow_NoEnd ?af_s_NoRow_NoDeed ?af_s_NoRow_NoText ?af_s_NoRow_NoForm ?af_s_NoRow_Halted ?af_s_NoRow_NoBack ?af_s_NoRow_NoSuch ?af_s_NoRow_NoStream ?af_s_NoRow_Busy ?af_s_NoRow_Taken ?af_s_NoRow_Same ?af_s_NoRow_Spent ?af_s_NoRow_Twice ?af_s_NoRow_TooMany ?af_s_NoRow_RowsError ?af_s_NoRow_Absent ?af_s_NoRow_Barred ?af_s_NoRow_ValueError ?af_s_NoRow_LookupError ?af_s_NoRow_RuntimeError ?af_s_NoRow_ArithmeticError ?af_k_NoForm ?af_ai_NoForm ?af_ao_NoForm ?af_ed_NoForm ?af_sa_NoForm ?af_b_NoForm ?af_n_NoForm_what ?af_sg_RowsError ?af_rd_RowsError ?af_fv_RowsError ?af_eg_NoForm ?af_ek_NoForm ?af_ea_NoForm ?af_em_NoForm ?af_s_NoForm_NoNumber ?af_s_NoForm_NoForm ?af_s_NoForm_NoPlace ?af_s_NoForm_NoOrder ?af_s_NoForm_NoPattern ?af_s_NoForm_NoLetter ?af_s_NoForm_NoTicket ?af_s_NoForm_NoSize ?af_s_NoForm_NoEnd ?af_s_NoForm_NoDeed ?af_s_NoForm_NoText ?af_s_NoForm_NoRow ?af_s_NoForm_Halted ?af_s_NoForm_NoBack ?af_s_NoForm_NoSuch ?af_s_NoForm_NoStream ?af_s_NoForm_Busy ?af_s_NoForm_Taken ?af_s_NoForm_Same ?af_s_NoForm_Spent ?af_s_NoForm_Twice ?af_s_NoForm_TooMany ?af_s_NoForm_RowsError ?af_s_NoForm_Absent ?af_s_NoForm_Barred ?af_s_NoForm_ValueError ?af_s_NoForm_LookupError ?af_s_NoForm_RuntimeError ?af_s_NoForm_ArithmeticError ?af_k_Halted ?af_ai_Halted ?af_ao_Halted ?af_ed_Halted ?af_sa_Halted ?af_b_Halted ?af_n_Halted_number ?af_n_Halted_answers ?af_eg_Halted ?af_ek_Halted ?af_ea_Halted ?af_em_Halted ?af_s_Halted_NoNumber ?af_s_Halted_Halted ?af_s_Halted_NoPlace ?af_s_Halted_NoOrder ?af_s_Halted_NoPattern ?af_s_Halted_NoLetter ?af_s_Halted_NoTicket ?af_s_Halted_NoSize ?af_s_Halted_NoEnd ?af_s_Halted_NoDeed ?af_s_Halted_NoText ?af_s_Halted_NoRow ?af_s_Halted_NoForm ?af_s_Halted_NoBack ?af_s_Halted_NoSuch ?af_s_Halted_NoStream ?af_s_Halted_Busy ?af_s_Halted_Taken ?af_s_Halted_Same ?af_s_Halted_Spent ?af_s_Halted_Twice ?af_s_Halted_TooMany ?af_s_Halted_RowsError ?af_s_Halted_Absent ?af_s_Halted_Barred ?af_s_Halted_ValueError ?af_s_Halted_LookupError ?af_s_Halted_RuntimeError ?af_s_Halted_ArithmeticError ?af_k_NoBack ?af_x_NoBack ?af_b_NoBack ?af_eg_NoBack ?af_ek_NoBack ?af_ed_NoBack ?af_ea_NoBack ?af_em_NoBack ?af_s_NoBack_NoNumber ?af_s_NoBack_NoBack ?af_s_NoBack_NoPlace ?af_s_NoBack_NoOrder ?af_s_NoBack_NoPattern ?af_s_NoBack_NoLetter ?af_s_NoBack_NoTicket ?af_s_NoBack_NoSize ?af_s_NoBack_NoEnd ?af_s_NoBack_NoDeed ?af_s_NoBack_NoText ?af_s_NoBack_NoRow ?af_s_NoBack_NoForm ?af_s_NoBack_Halted ?af_s_NoBack_NoSuch ?af_s_NoBack_NoStream ?af_s_NoBack_Busy ?af_s_NoBack_Taken ?af_s_NoBack_Same ?af_s_NoBack_Spent ?af_s_NoBack_Twice ?af_s_NoBack_TooMany ?af_s_NoBack_RowsError ?af_s_NoBack_Absent ?af_s_NoBack_Barred ?af_s_NoBack_ValueError ?af_s_NoBack_LookupError ?af_s_NoBack_RuntimeError ?af_s_NoBack_ArithmeticError ?af_k_NoSuch ?af_ai_NoSuch ?af_ao_NoSuch ?af_ed_NoSuch ?af_sa_NoSuch ?af_b_NoSuch ?af_n_NoSuch_name ?af_sg_Absent ?af_rd_Absent ?af_fv_Absent ?af_eg_NoSuch ?af_ek_NoSuch ?af_ea_NoSuch ?af_em_NoSuch ?af_s_NoSuch_NoNumber ?af_s_NoSuch_NoSuch ?af_s_NoSuch_NoPlace ?af_s_NoSuch_NoOrder ?af_s_NoSuch_NoPattern ?af_s_NoSuch_NoLetter ?af_s_NoSuch_NoTicket ?af_s_NoSuch_NoSize ?af_s_NoSuch_NoEnd ?af_s_NoSuch_NoDeed ?af_s_NoSuch_NoText ?af_s_NoSuch_NoRow ?af_s_NoSuch_NoForm ?af_s_NoSuch_Halted ?af_s_NoSuch_NoBack ?af_s_NoSuch_NoStream ?af_s_NoSuch_Busy ?af_s_NoSuch_Taken ?af_s_NoSuch_Same ?af_s_NoSuch_Spent ?af_s_NoSuch_Twice ?af_s_NoSuch_TooMany ?af_s_NoSuch_RowsError ?af_s_NoSuch_Absent ?af_s_NoSuch_Barred ?af_s_NoSuch_ValueError ?af_s_NoSuch_LookupError ?af_s_NoSuch_RuntimeError ?af_s_NoSuch_ArithmeticError ?af_k_NoStream ?af_ai_NoStream ?af_ao_NoStream ?af_ed_NoStream ?af_sa_NoStream ?af_b_NoStream ?af_n_NoStream_letter ?af_eg_NoStream ?af_ek_NoStream ?af_ea_NoStream ?af_em_NoStream ?af_s_NoStream_NoNumber ?af_s_NoStream_NoStream ?af_s_NoStream_NoPlace ?af_s_NoStream_NoOrder ?af_s_NoStream_NoPattern ?af_s_NoStream_NoLetter ?af_s_NoStream_NoTicket ?af_s_NoStream_NoSize ?af_s_NoStream_NoEnd ?af_s_NoStream_NoDeed ?af_s_NoStream_NoText ?af_s_NoStream_NoRow ?af_s_NoStream_NoForm ?af_s_NoStream_Halted ?af_s_NoStream_NoBack ?af_s_NoStream_NoSuch ?af_s_NoStream_Busy ?af_s_NoStream_Taken ?af_s_NoStream_Same ?af_s_NoStream_Spent ?af_s_NoStream_Twice ?af_s_NoStream_TooMany ?af_s_NoStream_RowsError ?af_s_NoStream_Absent ?af_s_NoStream_Barred ?af_s_NoStream_ValueError ?af_s_NoStream_LookupError ?af_s_NoStream_RuntimeError ?af_s_NoStream_ArithmeticError ?af_k_Busy ?af_x_Busy ?af_b_Busy ?af_eg_Busy ?af_ek_Busy ?af_ed_Busy ?af_ea_Busy ?af_em_Busy ?af_s_Busy_NoNumber ?af_s_Busy_Busy ?af_s_Busy_NoPlace ?af_s_Busy_NoOrder ?af_s_Busy_NoPattern ?af_s_Busy_NoLetter ?af_s_Busy_NoTicket ?af_s_Busy_NoSize ?af_s_Busy_NoEnd ?af_s_Busy_NoDeed ?af_s_Busy_NoText ?af_s_Busy_NoRow ?af_s_Busy_NoForm ?af_s_Busy_Halted ?af_s_Busy_NoBack ?af_s_Busy_NoSuch ?af_s_Busy_NoStream ?af_s_Busy_Taken ?af_s_Busy_Same ?af_s_Busy_Spent ?af_s_Busy_Twice ?af_s_Busy_TooMany ?af_s_Busy_RowsError ?af_s_Busy_Absent ?af_s_Busy_Barred ?af_s_Busy_ValueError ?af_s_Busy_LookupError ?af_s_Busy_RuntimeError ?af_s_Busy_ArithmeticError ?af_k_Taken ?af_ai_Taken ?af_ao_Taken ?af_ed_Taken ?af_sa_Taken ?af_b_Taken ?af_n_Taken_name ?af_sg_Barred ?af_rd_Barred ?af_fv_Barred ?af_eg_Taken ?af_ek_Taken ?af_ea_Taken ?af_em_Taken ?af_s_Taken_NoNumber ?af_s_Taken_Taken ?af_s_Taken_NoPlace ?af_s_Taken_NoOrder ?af_s_Taken_NoPattern ?af_s_Taken_NoLetter ?af_s_Taken_NoTicket ?af_s_Taken_NoSize ?af_s_Taken_NoEnd ?af_s_Taken_NoDeed ?af_s_Taken_NoText ?af_s_Taken_NoRow ?af_s_Taken_NoForm ?af_s_Taken_Halted ?af_s_Taken_NoBack ?af_s_Taken_NoSuch ?af_s_Taken_NoStream ?af_s_Taken_Busy ?af_s_Taken_Same ?af_s_Taken_Spent ?af_s_Taken_Twice ?af_s_Taken_TooMany ?af_s_Taken_RowsError ?af_s_Taken_Absent ?af_s_Taken_Barred ?af_s_Taken_ValueError ?af_s_Taken_LookupError ?af_s_Taken_RuntimeError ?af_s_Taken_ArithmeticError ?af_k_Same ?af_ai_Same ?af_ao_Same ?af_ed_Same ?af_sa_Same ?af_b_Same ?af_n_Same_name ?af_eg_Same ?af_ek_Same ?af_ea_Same ?af_em_Same ?af_s_Same_NoNumber ?af_s_Same_Same ?af_s_Same_NoPlace ?af_s_Same_NoOrder ?af_s_Same_NoPattern ?af_s_Same_NoLetter ?af_s_Same_NoTicket ?af_s_Same_NoSize ?af_s_Same_NoEnd ?af_s_Same_NoDeed ?af_s_Same_NoText ?af_s_Same_NoRow ?af_s_Same_NoForm ?af_s_Same_Halted ?af_s_Same_NoBack ?af_s_Same_NoSuch ?af_s_Same_NoStream ?af_s_Same_Busy ?af_s_Same_Taken ?af_s_Same_Spent ?af_s_Same_Twice ?af_s_Same_TooMany ?af_s_Same_RowsError ?af_s_Same_Absent ?af_s_Same_Barred ?af_s_Same_ValueError ?af_s_Same_LookupError ?af_s_Same_RuntimeError ?af_s_Same_ArithmeticError ?af_k_Spent ?af_ai_Spent ?af_ao_Spent ?af_ed_Spent ?af_sa_Spent ?af_b_Spent ?af_n_Spent_letter ?af_eg_Spent ?af_ek_Spent ?af_ea_Spent ?af_em_Spent ?af_s_Spent_NoNumber ?af_s_Spent_Spent ?af_s_Spent_NoPlace ?af_s_Spent_NoOrder ?af_s_Spent_NoPattern ?af_s_Spent_NoLetter ?af_s_Spent_NoTicket ?af_s_Spent_NoSize ?af_s_Spent_NoEnd ?af_s_Spent_NoDeed ?af_s_Spent_NoText ?af_s_Spent_NoRow ?af_s_Spent_NoForm ?af_s_Spent_Halted ?af_s_Spent_NoBack ?af_s_Spent_NoSuch ?af_s_Spent_NoStream ?af_s_Spent_Busy ?af_s_Spent_Taken ?af_s_Spent_Same ?af_s_Spent_Twice ?af_s_Spent_TooMany ?af_s_Spent_RowsError ?af_s_Spent_Absent ?af_s_Spent_Barred ?af_s_Spent_ValueError ?af_s_Spent_LookupError ?af_s_Spent_RuntimeError ?af_s_Spent_ArithmeticError ?af_k_Twice ?af_ai_Twice ?af_ao_Twice ?af_ed_Twice ?af_sa_Twice ?af_b_Twice ?af_n_Twice_ticket ?af_eg_Twice ?af_ek_Twice ?af_ea_Twice ?af_em_Twice ?af_s_Twice_NoNumber ?af_s_Twice_Twice ?af_s_Twice_NoPlace ?af_s_Twice_NoOrder ?af_s_Twice_NoPattern ?af_s_Twice_NoLetter ?af_s_Twice_NoTicket ?af_s_Twice_NoSize ?af_s_Twice_NoEnd ?af_s_Twice_NoDeed ?af_s_Twice_NoText ?af_s_Twice_NoRow ?af_s_Twice_NoForm ?af_s_Twice_Halted ?af_s_Twice_NoBack ?af_s_Twice_NoSuch ?af_s_Twice_NoStream ?af_s_Twice_Busy ?af_s_Twice_Taken ?af_s_Twice_Same ?af_s_Twice_Spent ?af_s_Twice_TooMany ?af_s_Twice_RowsError ?af_s_Twice_Absent ?af_s_Twice_Barred ?af_s_Twice_ValueError ?af_s_Twice_LookupError ?af_s_Twice_RuntimeError ?af_s_Twice_ArithmeticError ?af_k_TooMany ?af_ai_TooMany ?af_ao_TooMany ?af_ed_TooMany ?af_sa_TooMany ?af_b_TooMany ?af_n_TooMany_tickets ?af_n_TooMany_lines ?af_fv_ArithmeticError ?af_eg_TooMany ?af_ek_TooMany ?af_ea_TooMany ?af_em_TooMany ?af_s_TooMany_NoNumber ?af_s_TooMany_TooMany ?af_s_TooMany_NoPlace ?af_s_TooMany_NoOrder ?af_s_TooMany_NoPattern ?af_s_TooMany_NoLetter ?af_s_TooMany_NoTicket ?af_s_TooMany_NoSize ?af_s_TooMany_NoEnd ?af_s_TooMany_NoDeed ?af_s_TooMany_NoText ?af_s_TooMany_NoRow ?af_s_TooMany_NoForm ?af_s_TooMany_Halted ?af_s_TooMany_NoBack ?af_s_TooMany_NoSuch ?af_s_TooMany_NoStream ?af_s_TooMany_Busy ?af_s_TooMany_Taken ?af_s_TooMany_Same ?af_s_TooMany_Spent ?af_s_TooMany_Twice ?af_s_TooMany_RowsError ?af_s_TooMany_Absent ?af_s_TooMany_Barred ?af_s_TooMany_ValueError ?af_s_TooMany_LookupError ?af_s_TooMany_RuntimeError ?af_s_TooMany_ArithmeticError ?af_en_ ?af_et_ ?z_len ?z_abs ?z_max ?z_divmod ?z_isinstance ?z_ValueError ?z_LookupError ?z_RuntimeError ?z_ArithmeticError ?z_enumerate ?z_range ?z_int
    (case ag_NoNumber => k_is)
    (case ag_NoPlace => k_is)
    (case ag_NoOrder => k_is)
    (case ag_NoPattern => k_is)
    (case ag_NoLetter => k_is)
    (case ag_NoTicket => k_is)
    (case ag_NoSize => k_is)
    (case ag_NoEnd => k_is)
    (case ag_NoDeed => k_is)
    (case ag_NoText => k_is)
    (case ag_NoRow => k_is)
    (case ag_NoForm => k_is)
    (case ag_Halted => k_is)
    (case ag_NoBack => k_is)
    (case ag_NoSuch => k_is)
    (case ag_NoStream => k_is)
    (case ag_Busy => k_is)
    (case ag_Taken => k_is)
    (case ag_Same => k_is)
    (case ag_Spent => k_is)
    (case ag_Twice => k_is)
    (case ag_TooMany => k_is)
    (case ag_RowsError => k_is)
    (case ag_Absent => k_is)
    (case ag_Barred => k_is)
    (case a_L_pot => k_is)
    (case a_L_digit => k_is)
    (case a_L_kinds => k_is)
    (case a_L_bases => k_is)
    (case a_L_are_right => k_is)
    (case a_law => k_is)
    (case l_L_pot => k_is)
    (case c_L_pot => k_is)
    (case k_L_pot => k_is)
    (case l_L_digit => k_is)
    (case c_L_digit => k_is)
    (case k_L_digit => k_is)
    (case l_L_kinds => k_is)
    (case c_L_kinds => k_is)
    (case k_L_kinds => k_is)
    (case l_L_bases => k_is)
    (case c_L_bases => k_is)
    (case k_L_bases => k_is)
    (case l_L_are_right => k_is)
    (case c_L_are_right => k_is)
    (case k_L_are_right => k_is)
    (case l_law => k_is)
    (case c_law => k_is)
    (case k_law => k_is)
    (case iC_NoForm => k_is)
    (case tI_NoForm => k_is)
    (case li_NoForm => k_is)
    (case ci_NoForm => k_is)
    (case iC_Halted => k_is)
    (case tI_Halted => k_is)
    (case li_Halted => k_is)
    (case ci_Halted => k_is)
    (case iC_NoSuch => k_is)
    (case tI_NoSuch => k_is)
    (case li_NoSuch => k_is)
    (case ci_NoSuch => k_is)
    (case iC_NoStream => k_is)
    (case tI_NoStream => k_is)
    (case li_NoStream => k_is)
    (case ci_NoStream => k_is)
    (case iC_Taken => k_is)
    (case tI_Taken => k_is)
    (case li_Taken => k_is)
    (case ci_Taken => k_is)
    (case iC_Same => k_is)
    (case tI_Same => k_is)
    (case li_Same => k_is)
    (case ci_Same => k_is)
    (case iC_Spent => k_is)
    (case tI_Spent => k_is)
    (case li_Spent => k_is)
    (case ci_Spent => k_is)
    (case iC_Twice => k_is)
    (case tI_Twice => k_is)
    (case li_Twice => k_is)
    (case ci_Twice => k_is)
    (case iC_TooMany => k_is)
    (case tI_TooMany => k_is)
    (case li_TooMany => k_is)
    (case ci_TooMany => k_is)
    (case af_k_NoNumber => k_is)
    (case af_x_NoNumber => k_exc)
    (case af_b_NoNumber => k_is)
    (case af_t_NoNumber => k_is)
    (case af_eg_NoNumber => k_is)
    (case af_ek_NoNumber => k_is)
    (case af_ed_NoNumber => k_is)
    (case af_ea_NoNumber => k_is)
    (case af_em_NoNumber => k_is)
    (case af_i_NoNumber => k_is)
    (case af_s_NoNumber_NoNumber => k_is)
    (case af_i_NoPlace => k_is)
    (case af_t_NoPlace => k_is)
    (case af_s_NoNumber_NoPlace => k_is)
    (case af_i_NoOrder => k_is)
    (case af_t_NoOrder => k_is)
    (case af_s_NoNumber_NoOrder => k_is)
    (case af_i_NoPattern => k_is)
    (case af_t_NoPattern => k_is)
    (case af_s_NoNumber_NoPattern => k_is)
    (case af_i_NoLetter => k_is)
    (case af_t_NoLetter => k_is)
    (case af_s_NoNumber_NoLetter => k_is)
    (case af_i_NoTicket => k_is)
    (case af_t_NoTicket => k_is)
    (case af_s_NoNumber_NoTicket => k_is)
    (case af_i_NoSize => k_is)
    (case af_t_NoSize => k_is)
    (case af_s_NoNumber_NoSize => k_is)
    (case af_i_NoEnd => k_is)
    (case af_t_NoEnd => k_is)
    (case af_s_NoNumber_NoEnd => k_is)
    (case af_i_NoDeed => k_is)
    (case af_t_NoDeed => k_is)
    (case af_s_NoNumber_NoDeed => k_is)
    (case af_i_NoText => k_is)
    (case af_t_NoText => k_is)
    (case af_s_NoNumber_NoText => k_is)
    (case af_i_NoRow => k_is)
    (case af_t_NoRow => k_is)
    (case af_s_NoNumber_NoRow => k_is)
    (case af_i_NoForm => k_is)
    (case af_t_NoForm => k_is)
    (case af_s_NoNumber_NoForm => k_is)
    (case af_i_Halted => k_is)
    (case af_t_Halted => k_is)
    (case af_s_NoNumber_Halted => k_is)
    (case af_i_NoBack => k_is)
    (case af_t_NoBack => k_is)
    (case af_s_NoNumber_NoBack => k_is)
    (case af_i_NoSuch => k_is)
    (case af_t_NoSuch => k_is)
    (case af_s_NoNumber_NoSuch => k_is)
    (case af_i_NoStream => k_is)
    (case af_t_NoStream => k_is)
    (case af_s_NoNumber_NoStream => k_is)
    (case af_i_Busy => k_is)
    (case af_t_Busy => k_is)
    (case af_s_NoNumber_Busy => k_is)
    (case af_i_Taken => k_is)
    (case af_t_Taken => k_is)
    (case af_s_NoNumber_Taken => k_is)
    (case af_i_Same => k_is)
    (case af_t_Same => k_is)
    (case af_s_NoNumber_Same => k_is)
    (case af_i_Spent => k_is)
    (case af_t_Spent => k_is)
    (case af_s_NoNumber_Spent => k_is)
    (case af_i_Twice => k_is)
    (case af_t_Twice => k_is)
    (case af_s_NoNumber_Twice => k_is)
    (case af_i_TooMany => k_is)
    (case af_t_TooMany => k_is)
    (case af_s_NoNumber_TooMany => k_is)
    (case af_i_RowsError => k_is)
    (case af_t_RowsError => k_is)
    (case af_s_NoNumber_RowsError => k_is)
    (case af_i_Absent => k_is)
    (case af_t_Absent => k_is)
    (case af_s_NoNumber_Absent => k_is)
    (case af_i_Barred => k_is)
    (case af_t_Barred => k_is)
    (case af_s_NoNumber_Barred => k_is)
    (case af_s_NoNumber_ValueError => k_is)
    (case af_s_NoNumber_LookupError => k_is)
    (case af_s_NoNumber_RuntimeError => k_is)
    (case af_s_NoNumber_ArithmeticError => k_is)
    (case af_k_NoPlace => k_is)
    (case af_x_NoPlace => k_exc)
    (case af_b_NoPlace => k_is)
    (case af_eg_NoPlace => k_is)
    (case af_ek_NoPlace => k_is)
    (case af_ed_NoPlace => k_is)
    (case af_ea_NoPlace => k_is)
    (case af_em_NoPlace => k_is)
    (case af_s_NoPlace_NoNumber => k_is)
    (case af_s_NoPlace_NoPlace => k_is)
    (case af_s_NoPlace_NoOrder => k_is)
    (case af_s_NoPlace_NoPattern => k_is)
    (case af_s_NoPlace_NoLetter => k_is)
    (case af_s_NoPlace_NoTicket => k_is)
    (case af_s_NoPlace_NoSize => k_is)
    (case af_s_NoPlace_NoEnd => k_is)
    (case af_s_NoPlace_NoDeed => k_is)
    (case af_s_NoPlace_NoText => k_is)
    (case af_s_NoPlace_NoRow => k_is)
    (case af_s_NoPlace_NoForm => k_is)
    (case af_s_NoPlace_Halted => k_is)
    (case af_s_NoPlace_NoBack => k_is)
    (case af_s_NoPlace_NoSuch => k_is)
    (case af_s_NoPlace_NoStream => k_is)
    (case af_s_NoPlace_Busy => k_is)
    (case af_s_NoPlace_Taken => k_is)
    (case af_s_NoPlace_Same => k_is)
    (case af_s_NoPlace_Spent => k_is)
    (case af_s_NoPlace_Twice => k_is)
    (case af_s_NoPlace_TooMany => k_is)
    (case af_s_NoPlace_RowsError => k_is)
    (case af_s_NoPlace_Absent => k_is)
    (case af_s_NoPlace_Barred => k_is)
    (case af_s_NoPlace_ValueError => k_is)
    (case af_s_NoPlace_LookupError => k_is)
    (case af_s_NoPlace_RuntimeError => k_is)
    (case af_s_NoPlace_ArithmeticError => k_is)
    (case af_k_NoOrder => k_is)
    (case af_x_NoOrder => k_exc)
    (case af_b_NoOrder => k_is)
    (case af_eg_NoOrder => k_is)
    (case af_ek_NoOrder => k_is)
    (case af_ed_NoOrder => k_is)
    (case af_ea_NoOrder => k_is)
    (case af_em_NoOrder => k_is)
    (case af_s_NoOrder_NoNumber => k_is)
    (case af_s_NoOrder_NoOrder => k_is)
    (case af_s_NoOrder_NoPlace => k_is)
    (case af_s_NoOrder_NoPattern => k_is)
    (case af_s_NoOrder_NoLetter => k_is)
    (case af_s_NoOrder_NoTicket => k_is)
    (case af_s_NoOrder_NoSize => k_is)
    (case af_s_NoOrder_NoEnd => k_is)
    (case af_s_NoOrder_NoDeed => k_is)
    (case af_s_NoOrder_NoText => k_is)
    (case af_s_NoOrder_NoRow => k_is)
    (case af_s_NoOrder_NoForm => k_is)
    (case af_s_NoOrder_Halted => k_is)
    (case af_s_NoOrder_NoBack => k_is)
    (case af_s_NoOrder_NoSuch => k_is)
    (case af_s_NoOrder_NoStream => k_is)
    (case af_s_NoOrder_Busy => k_is)
    (case af_s_NoOrder_Taken => k_is)
    (case af_s_NoOrder_Same => k_is)
    (case af_s_NoOrder_Spent => k_is)
    (case af_s_NoOrder_Twice => k_is)
    (case af_s_NoOrder_TooMany => k_is)
    (case af_s_NoOrder_RowsError => k_is)
    (case af_s_NoOrder_Absent => k_is)
    (case af_s_NoOrder_Barred => k_is)
    (case af_s_NoOrder_ValueError => k_is)
    (case af_s_NoOrder_LookupError => k_is)
    (case af_s_NoOrder_RuntimeError => k_is)
    (case af_s_NoOrder_ArithmeticError => k_is)
    (case af_k_NoPattern => k_is)
    (case af_x_NoPattern => k_exc)
    (case af_b_NoPattern => k_is)
    (case af_eg_NoPattern => k_is)
    (case af_ek_NoPattern => k_is)
    (case af_ed_NoPattern => k_is)
    (case af_ea_NoPattern => k_is)
    (case af_em_NoPattern => k_is)
    (case af_s_NoPattern_NoNumber => k_is)
    (case af_s_NoPattern_NoPattern => k_is)
    (case af_s_NoPattern_NoPlace => k_is)
    (case af_s_NoPattern_NoOrder => k_is)
    (case af_s_NoPattern_NoLetter => k_is)
    (case af_s_NoPattern_NoTicket => k_is)
    (case af_s_NoPattern_NoSize => k_is)
    (case af_s_NoPattern_NoEnd => k_is)
    (case af_s_NoPattern_NoDeed => k_is)
    (case af_s_NoPattern_NoText => k_is)
    (case af_s_NoPattern_NoRow => k_is)
    (case af_s_NoPattern_NoForm => k_is)
    (case af_s_NoPattern_Halted => k_is)
    (case af_s_NoPattern_NoBack => k_is)
    (case af_s_NoPattern_NoSuch => k_is)
    (case af_s_NoPattern_NoStream => k_is)
    (case af_s_NoPattern_Busy => k_is)
    (case af_s_NoPattern_Taken => k_is)
    (case af_s_NoPattern_Same => k_is)
    (case af_s_NoPattern_Spent => k_is)
    (case af_s_NoPattern_Twice => k_is)
    (case af_s_NoPattern_TooMany => k_is)
    (case af_s_NoPattern_RowsError => k_is)
    (case af_s_NoPattern_Absent => k_is)
    (case af_s_NoPattern_Barred => k_is)
    (case af_s_NoPattern_ValueError => k_is)
    (case af_s_NoPattern_LookupError => k_is)
    (case af_s_NoPattern_RuntimeError => k_is)
    (case af_s_NoPattern_ArithmeticError => k_is)
    (case af_k_NoLetter => k_is)
    (case af_x_NoLetter => k_exc)
    (case af_b_NoLetter => k_is)
    (case af_eg_NoLetter => k_is)
    (case af_ek_NoLetter => k_is)
    (case af_ed_NoLetter => k_is)
    (case af_ea_NoLetter => k_is)
    (case af_em_NoLetter => k_is)
    (case af_s_NoLetter_NoNumber => k_is)
    (case af_s_NoLetter_NoLetter => k_is)
    (case af_s_NoLetter_NoPlace => k_is)
    (case af_s_NoLetter_NoOrder => k_is)
    (case af_s_NoLetter_NoPattern => k_is)
    (case af_s_NoLetter_NoTicket => k_is)
    (case af_s_NoLetter_NoSize => k_is)
    (case af_s_NoLetter_NoEnd => k_is)
    (case af_s_NoLetter_NoDeed => k_is)
    (case af_s_NoLetter_NoText => k_is)
    (case af_s_NoLetter_NoRow => k_is)
    (case af_s_NoLetter_NoForm => k_is)
    (case af_s_NoLetter_Halted => k_is)
    (case af_s_NoLetter_NoBack => k_is)
    (case af_s_NoLetter_NoSuch => k_is)
    (case af_s_NoLetter_NoStream => k_is)
    (case af_s_NoLetter_Busy => k_is)
    (case af_s_NoLetter_Taken => k_is)
    (case af_s_NoLetter_Same => k_is)
    (case af_s_NoLetter_Spent => k_is)
    (case af_s_NoLetter_Twice => k_is)
    (case af_s_NoLetter_TooMany => k_is)
    (case af_s_NoLetter_RowsError => k_is)
    (case af_s_NoLetter_Absent => k_is)
    (case af_s_NoLetter_Barred => k_is)
    (case af_s_NoLetter_ValueError => k_is)
    (case af_s_NoLetter_LookupError => k_is)
    (case af_s_NoLetter_RuntimeError => k_is)
    (case af_s_NoLetter_ArithmeticError => k_is)
    (case af_k_NoTicket => k_is)
    (case af_x_NoTicket => k_exc)
    (case af_b_NoTicket => k_is)
    (case af_eg_NoTicket => k_is)
    (case af_ek_NoTicket => k_is)
    (case af_ed_NoTicket => k_is)
    (case af_ea_NoTicket => k_is)
    (case af_em_NoTicket => k_is)
    (case af_s_NoTicket_NoNumber => k_is)
    (case af_s_NoTicket_NoTicket => k_is)
    (case af_s_NoTicket_NoPlace => k_is)
    (case af_s_NoTicket_NoOrder => k_is)
    (case af_s_NoTicket_NoPattern => k_is)
    (case af_s_NoTicket_NoLetter => k_is)
    (case af_s_NoTicket_NoSize => k_is)
    (case af_s_NoTicket_NoEnd => k_is)
    (case af_s_NoTicket_NoDeed => k_is)
    (case af_s_NoTicket_NoText => k_is)
    (case af_s_NoTicket_NoRow => k_is)
    (case af_s_NoTicket_NoForm => k_is)
    (case af_s_NoTicket_Halted => k_is)
    (case af_s_NoTicket_NoBack => k_is)
    (case af_s_NoTicket_NoSuch => k_is)
    (case af_s_NoTicket_NoStream => k_is)
    (case af_s_NoTicket_Busy => k_is)
    (case af_s_NoTicket_Taken => k_is)
    (case af_s_NoTicket_Same => k_is)
    (case af_s_NoTicket_Spent => k_is)
    (case af_s_NoTicket_Twice => k_is)
    (case af_s_NoTicket_TooMany => k_is)
    (case af_s_NoTicket_RowsError => k_is)
    (case af_s_NoTicket_Absent => k_is)
    (case af_s_NoTicket_Barred => k_is)
    (case af_s_NoTicket_ValueError => k_is)
    (case af_s_NoTicket_LookupError => k_is)
    (case af_s_NoTicket_RuntimeError => k_is)
    (case af_s_NoTicket_ArithmeticError => k_is)
    (case af_k_NoSize => k_is)
    (case af_x_NoSize => k_exc)
    (case af_b_NoSize => k_is)
    (case af_eg_NoSize => k_is)
    (case af_ek_NoSize => k_is)
    (case af_ed_NoSize => k_is)
    (case af_ea_NoSize => k_is)
    (case af_em_NoSize => k_is)
    (case af_s_NoSize_NoNumber => k_is)
    (case af_s_NoSize_NoSize => k_is)
    (case af_s_NoSize_NoPlace => k_is)
    (case af_s_NoSize_NoOrder => k_is)
    (case af_s_NoSize_NoPattern => k_is)
    (case af_s_NoSize_NoLetter => k_is)
    (case af_s_NoSize_NoTicket => k_is)
    (case af_s_NoSize_NoEnd => k_is)
    (case af_s_NoSize_NoDeed => k_is)
    (case af_s_NoSize_NoText => k_is)
    (case af_s_NoSize_NoRow => k_is)
    (case af_s_NoSize_NoForm => k_is)
    (case af_s_NoSize_Halted => k_is)
    (case af_s_NoSize_NoBack => k_is)
    (case af_s_NoSize_NoSuch => k_is)
    (case af_s_NoSize_NoStream => k_is)
    (case af_s_NoSize_Busy => k_is)
    (case af_s_NoSize_Taken => k_is)
    (case af_s_NoSize_Same => k_is)
    (case af_s_NoSize_Spent => k_is)
    (case af_s_NoSize_Twice => k_is)
    (case af_s_NoSize_TooMany => k_is)
    (case af_s_NoSize_RowsError => k_is)
    (case af_s_NoSize_Absent => k_is)
    (case af_s_NoSize_Barred => k_is)
    (case af_s_NoSize_ValueError => k_is)
    (case af_s_NoSize_LookupError => k_is)
    (case af_s_NoSize_RuntimeError => k_is)
    (case af_s_NoSize_ArithmeticError => k_is)
    (case af_k_NoEnd => k_is)
    (case af_x_NoEnd => k_exc)
    (case af_b_NoEnd => k_is)
    (case af_eg_NoEnd => k_is)
    (case af_ek_NoEnd => k_is)
    (case af_ed_NoEnd => k_is)
    (case af_ea_NoEnd => k_is)
    (case af_em_NoEnd => k_is)
    (case af_s_NoEnd_NoNumber => k_is)
    (case af_s_NoEnd_NoEnd => k_is)
    (case af_s_NoEnd_NoPlace => k_is)
    (case af_s_NoEnd_NoOrder => k_is)
    (case af_s_NoEnd_NoPattern => k_is)
    (case af_s_NoEnd_NoLetter => k_is)
    (case af_s_NoEnd_NoTicket => k_is)
    (case af_s_NoEnd_NoSize => k_is)
    (case af_s_NoEnd_NoDeed => k_is)
    (case af_s_NoEnd_NoText => k_is)
    (case af_s_NoEnd_NoRow => k_is)
    (case af_s_NoEnd_NoForm => k_is)
    (case af_s_NoEnd_Halted => k_is)
    (case af_s_NoEnd_NoBack => k_is)
    (case af_s_NoEnd_NoSuch => k_is)
    (case af_s_NoEnd_NoStream => k_is)
    (case af_s_NoEnd_Busy => k_is)
    (case af_s_NoEnd_Taken => k_is)
    (case af_s_NoEnd_Same => k_is)
    (case af_s_NoEnd_Spent => k_is)
    (case af_s_NoEnd_Twice => k_is)
    (case af_s_NoEnd_TooMany => k_is)
    (case af_s_NoEnd_RowsError => k_is)
    (case af_s_NoEnd_Absent => k_is)
    (case af_s_NoEnd_Barred => k_is)
    (case af_s_NoEnd_ValueError => k_is)
    (case af_s_NoEnd_LookupError => k_is)
    (case af_s_NoEnd_RuntimeError => k_is)
    (case af_s_NoEnd_ArithmeticError => k_is)
    (case af_k_NoDeed => k_is)
    (case af_x_NoDeed => k_exc)
    (case af_b_NoDeed => k_is)
    (case af_eg_NoDeed => k_is)
    (case af_ek_NoDeed => k_is)
    (case af_ed_NoDeed => k_is)
    (case af_ea_NoDeed => k_is)
    (case af_em_NoDeed => k_is)
    (case af_s_NoDeed_NoNumber => k_is)
    (case af_s_NoDeed_NoDeed => k_is)
    (case af_s_NoDeed_NoPlace => k_is)
    (case af_s_NoDeed_NoOrder => k_is)
    (case af_s_NoDeed_NoPattern => k_is)
    (case af_s_NoDeed_NoLetter => k_is)
    (case af_s_NoDeed_NoTicket => k_is)
    (case af_s_NoDeed_NoSize => k_is)
    (case af_s_NoDeed_NoEnd => k_is)
    (case af_s_NoDeed_NoText => k_is)
    (case af_s_NoDeed_NoRow => k_is)
    (case af_s_NoDeed_NoForm => k_is)
    (case af_s_NoDeed_Halted => k_is)
    (case af_s_NoDeed_NoBack => k_is)
    (case af_s_NoDeed_NoSuch => k_is)
    (case af_s_NoDeed_NoStream => k_is)
    (case af_s_NoDeed_Busy => k_is)
    (case af_s_NoDeed_Taken => k_is)
    (case af_s_NoDeed_Same => k_is)
    (case af_s_NoDeed_Spent => k_is)
    (case af_s_NoDeed_Twice => k_is)
    (case af_s_NoDeed_TooMany => k_is)
    (case af_s_NoDeed_RowsError => k_is)
    (case af_s_NoDeed_Absent => k_is)
    (case af_s_NoDeed_Barred => k_is)
    (case af_s_NoDeed_ValueError => k_is)
    (case af_s_NoDeed_LookupError => k_is)
    (case af_s_NoDeed_RuntimeError => k_is)
    (case af_s_NoDeed_ArithmeticError => k_is)
    (case af_k_NoText => k_is)
    (case af_x_NoText => k_exc)
    (case af_b_NoText => k_is)
    (case af_eg_NoText => k_is)
    (case af_ek_NoText => k_is)
    (case af_ed_NoText => k_is)
    (case af_ea_NoText => k_is)
    (case af_em_NoText => k_is)
    (case af_s_NoText_NoNumber => k_is)
    (case af_s_NoText_NoText => k_is)
    (case af_s_NoText_NoPlace => k_is)
    (case af_s_NoText_NoOrder => k_is)
    (case af_s_NoText_NoPattern => k_is)
    (case af_s_NoText_NoLetter => k_is)
    (case af_s_NoText_NoTicket => k_is)
    (case af_s_NoText_NoSize => k_is)
    (case af_s_NoText_NoEnd => k_is)
    (case af_s_NoText_NoDeed => k_is)
    (case af_s_NoText_NoRow => k_is)
    (case af_s_NoText_NoForm => k_is)
    (case af_s_NoText_Halted => k_is)
    (case af_s_NoText_NoBack => k_is)
    (case af_s_NoText_NoSuch => k_is)
    (case af_s_NoText_NoStream => k_is)
    (case af_s_NoText_Busy => k_is)
    (case af_s_NoText_Taken => k_is)
    (case af_s_NoText_Same => k_is)
    (case af_s_NoText_Spent => k_is)
    (case af_s_NoText_Twice => k_is)
    (case af_s_NoText_TooMany => k_is)
    (case af_s_NoText_RowsError => k_is)
    (case af_s_NoText_Absent => k_is)
    (case af_s_NoText_Barred => k_is)
    (case af_s_NoText_ValueError => k_is)
    (case af_s_NoText_LookupError => k_is)
    (case af_s_NoText_RuntimeError => k_is)
    (case af_s_NoText_ArithmeticError => k_is)
    (case af_k_NoRow => k_is)
    (case af_x_NoRow => k_exc)
    (case af_b_NoRow => k_is)
    (case af_eg_NoRow => k_is)
    (case af_ek_NoRow => k_is)
    (case af_ed_NoRow => k_is)
    (case af_ea_NoRow => k_is)
    (case af_em_NoRow => k_is)
    (case af_s_NoRow_NoNumber => k_is)
    (case af_s_NoRow_NoRow => k_is)
    (case af_s_NoRow_NoPlace => k_is)
    (case af_s_NoRow_NoOrder => k_is)
    (case af_s_NoRow_NoPattern => k_is)
    (case af_s_NoRow_NoLetter => k_is)
    (case af_s_NoRow_NoTicket => k_is)
    (case af_s_NoRow_NoSize => k_is)
    (case af_s_NoRow_NoEnd => k_is)
    (case af_s_NoRow_NoDeed => k_is)
    (case af_s_NoRow_NoText => k_is)
    (case af_s_NoRow_NoForm => k_is)
    (case af_s_NoRow_Halted => k_is)
    (case af_s_NoRow_NoBack => k_is)
    (case af_s_NoRow_NoSuch => k_is)
    (case af_s_NoRow_NoStream => k_is)
    (case af_s_NoRow_Busy => k_is)
    (case af_s_NoRow_Taken => k_is)
    (case af_s_NoRow_Same => k_is)
    (case af_s_NoRow_Spent => k_is)
    (case af_s_NoRow_Twice => k_is)
    (case af_s_NoRow_TooMany => k_is)
    (case af_s_NoRow_RowsError => k_is)
    (case af_s_NoRow_Absent => k_is)
    (case af_s_NoRow_Barred => k_is)
    (case af_s_NoRow_ValueError => k_is)
    (case af_s_NoRow_LookupError => k_is)
    (case af_s_NoRow_RuntimeError => k_is)
    (case af_s_NoRow_ArithmeticError => k_is)
    (case af_k_NoForm => k_is)
    (case af_ai_NoForm => kx_is)
    (case af_ao_NoForm => kx_is)
    (case af_ed_NoForm => k_is)
    (case af_sa_NoForm => k_is)
    (case af_b_NoForm => k_is)
    (case af_n_NoForm_what => k_is)
    (case af_sg_RowsError => k_is)
    (case af_rd_RowsError => k_is)
    (case af_fv_RowsError => k_is)
    (case af_eg_NoForm => k_is)
    (case af_ek_NoForm => k_is)
    (case af_ea_NoForm => k_is)
    (case af_em_NoForm => k_is)
    (case af_s_NoForm_NoNumber => k_is)
    (case af_s_NoForm_NoForm => k_is)
    (case af_s_NoForm_NoPlace => k_is)
    (case af_s_NoForm_NoOrder => k_is)
    (case af_s_NoForm_NoPattern => k_is)
    (case af_s_NoForm_NoLetter => k_is)
    (case af_s_NoForm_NoTicket => k_is)
    (case af_s_NoForm_NoSize => k_is)
    (case af_s_NoForm_NoEnd => k_is)
    (case af_s_NoForm_NoDeed => k_is)
    (case af_s_NoForm_NoText => k_is)
    (case af_s_NoForm_NoRow => k_is)
    (case af_s_NoForm_Halted => k_is)
    (case af_s_NoForm_NoBack => k_is)
    (case af_s_NoForm_NoSuch => k_is)
    (case af_s_NoForm_NoStream => k_is)
    (case af_s_NoForm_Busy => k_is)
    (case af_s_NoForm_Taken => k_is)
    (case af_s_NoForm_Same => k_is)
    (case af_s_NoForm_Spent => k_is)
    (case af_s_NoForm_Twice => k_is)
    (case af_s_NoForm_TooMany => k_is)
    (case af_s_NoForm_RowsError => k_is)
    (case af_s_NoForm_Absent => k_is)
    (case af_s_NoForm_Barred => k_is)
    (case af_s_NoForm_ValueError => k_is)
    (case af_s_NoForm_LookupError => k_is)
    (case af_s_NoForm_RuntimeError => k_is)
    (case af_s_NoForm_ArithmeticError => k_is)
    (case af_k_Halted => k_is)
    (case af_ai_Halted => kx_is)
    (case af_ao_Halted => kx_is)
    (case af_ed_Halted => k_is)
    (case af_sa_Halted => k_is)
    (case af_b_Halted => k_is)
    (case af_n_Halted_number => k_is)
    (case af_n_Halted_answers => k_is)
    (case af_eg_Halted => k_is)
    (case af_ek_Halted => k_is)
    (case af_ea_Halted => k_is)
    (case af_em_Halted => k_is)
    (case af_s_Halted_NoNumber => k_is)
    (case af_s_Halted_Halted => k_is)
    (case af_s_Halted_NoPlace => k_is)
    (case af_s_Halted_NoOrder => k_is)
    (case af_s_Halted_NoPattern => k_is)
    (case af_s_Halted_NoLetter => k_is)
    (case af_s_Halted_NoTicket => k_is)
    (case af_s_Halted_NoSize => k_is)
    (case af_s_Halted_NoEnd => k_is)
    (case af_s_Halted_NoDeed => k_is)
    (case af_s_Halted_NoText => k_is)
    (case af_s_Halted_NoRow => k_is)
    (case af_s_Halted_NoForm => k_is)
    (case af_s_Halted_NoBack => k_is)
    (case af_s_Halted_NoSuch => k_is)
    (case af_s_Halted_NoStream => k_is)
    (case af_s_Halted_Busy => k_is)
    (case af_s_Halted_Taken => k_is)
    (case af_s_Halted_Same => k_is)
    (case af_s_Halted_Spent => k_is)
    (case af_s_Halted_Twice => k_is)
    (case af_s_Halted_TooMany => k_is)
    (case af_s_Halted_RowsError => k_is)
    (case af_s_Halted_Absent => k_is)
    (case af_s_Halted_Barred => k_is)
    (case af_s_Halted_ValueError => k_is)
    (case af_s_Halted_LookupError => k_is)
    (case af_s_Halted_RuntimeError => k_is)
    (case af_s_Halted_ArithmeticError => k_is)
    (case af_k_NoBack => k_is)
    (case af_x_NoBack => k_exc)
    (case af_b_NoBack => k_is)
    (case af_eg_NoBack => k_is)
    (case af_ek_NoBack => k_is)
    (case af_ed_NoBack => k_is)
    (case af_ea_NoBack => k_is)
    (case af_em_NoBack => k_is)
    (case af_s_NoBack_NoNumber => k_is)
    (case af_s_NoBack_NoBack => k_is)
    (case af_s_NoBack_NoPlace => k_is)
    (case af_s_NoBack_NoOrder => k_is)
    (case af_s_NoBack_NoPattern => k_is)
    (case af_s_NoBack_NoLetter => k_is)
    (case af_s_NoBack_NoTicket => k_is)
    (case af_s_NoBack_NoSize => k_is)
    (case af_s_NoBack_NoEnd => k_is)
    (case af_s_NoBack_NoDeed => k_is)
    (case af_s_NoBack_NoText => k_is)
    (case af_s_NoBack_NoRow => k_is)
    (case af_s_NoBack_NoForm => k_is)
    (case af_s_NoBack_Halted => k_is)
    (case af_s_NoBack_NoSuch => k_is)
    (case af_s_NoBack_NoStream => k_is)
    (case af_s_NoBack_Busy => k_is)
    (case af_s_NoBack_Taken => k_is)
    (case af_s_NoBack_Same => k_is)
    (case af_s_NoBack_Spent => k_is)
    (case af_s_NoBack_Twice => k_is)
    (case af_s_NoBack_TooMany => k_is)
    (case af_s_NoBack_RowsError => k_is)
    (case af_s_NoBack_Absent => k_is)
    (case af_s_NoBack_Barred => k_is)
    (case af_s_NoBack_ValueError => k_is)
    (case af_s_NoBack_LookupError => k_is)
    (case af_s_NoBack_RuntimeError => k_is)
    (case af_s_NoBack_ArithmeticError => k_is)
    (case af_k_NoSuch => k_is)
    (case af_ai_NoSuch => kx_is)
    (case af_ao_NoSuch => kx_is)
    (case af_ed_NoSuch => k_is)
    (case af_sa_NoSuch => k_is)
    (case af_b_NoSuch => k_is)
    (case af_n_NoSuch_name => k_is)
    (case af_sg_Absent => k_is)
    (case af_rd_Absent => k_is)
    (case af_fv_Absent => k_is)
    (case af_eg_NoSuch => k_is)
    (case af_ek_NoSuch => k_is)
    (case af_ea_NoSuch => k_is)
    (case af_em_NoSuch => k_is)
    (case af_s_NoSuch_NoNumber => k_is)
    (case af_s_NoSuch_NoSuch => k_is)
    (case af_s_NoSuch_NoPlace => k_is)
    (case af_s_NoSuch_NoOrder => k_is)
    (case af_s_NoSuch_NoPattern => k_is)
    (case af_s_NoSuch_NoLetter => k_is)
    (case af_s_NoSuch_NoTicket => k_is)
    (case af_s_NoSuch_NoSize => k_is)
    (case af_s_NoSuch_NoEnd => k_is)
    (case af_s_NoSuch_NoDeed => k_is)
    (case af_s_NoSuch_NoText => k_is)
    (case af_s_NoSuch_NoRow => k_is)
    (case af_s_NoSuch_NoForm => k_is)
    (case af_s_NoSuch_Halted => k_is)
    (case af_s_NoSuch_NoBack => k_is)
    (case af_s_NoSuch_NoStream => k_is)
    (case af_s_NoSuch_Busy => k_is)
    (case af_s_NoSuch_Taken => k_is)
    (case af_s_NoSuch_Same => k_is)
    (case af_s_NoSuch_Spent => k_is)
    (case af_s_NoSuch_Twice => k_is)
    (case af_s_NoSuch_TooMany => k_is)
    (case af_s_NoSuch_RowsError => k_is)
    (case af_s_NoSuch_Absent => k_is)
    (case af_s_NoSuch_Barred => k_is)
    (case af_s_NoSuch_ValueError => k_is)
    (case af_s_NoSuch_LookupError => k_is)
    (case af_s_NoSuch_RuntimeError => k_is)
    (case af_s_NoSuch_ArithmeticError => k_is)
    (case af_k_NoStream => k_is)
    (case af_ai_NoStream => kx_is)
    (case af_ao_NoStream => kx_is)
    (case af_ed_NoStream => k_is)
    (case af_sa_NoStream => k_is)
    (case af_b_NoStream => k_is)
    (case af_n_NoStream_letter => k_is)
    (case af_eg_NoStream => k_is)
    (case af_ek_NoStream => k_is)
    (case af_ea_NoStream => k_is)
    (case af_em_NoStream => k_is)
    (case af_s_NoStream_NoNumber => k_is)
    (case af_s_NoStream_NoStream => k_is)
    (case af_s_NoStream_NoPlace => k_is)
    (case af_s_NoStream_NoOrder => k_is)
    (case af_s_NoStream_NoPattern => k_is)
    (case af_s_NoStream_NoLetter => k_is)
    (case af_s_NoStream_NoTicket => k_is)
    (case af_s_NoStream_NoSize => k_is)
    (case af_s_NoStream_NoEnd => k_is)
    (case af_s_NoStream_NoDeed => k_is)
    (case af_s_NoStream_NoText => k_is)
    (case af_s_NoStream_NoRow => k_is)
    (case af_s_NoStream_NoForm => k_is)
    (case af_s_NoStream_Halted => k_is)
    (case af_s_NoStream_NoBack => k_is)
    (case af_s_NoStream_NoSuch => k_is)
    (case af_s_NoStream_Busy => k_is)
    (case af_s_NoStream_Taken => k_is)
    (case af_s_NoStream_Same => k_is)
    (case af_s_NoStream_Spent => k_is)
    (case af_s_NoStream_Twice => k_is)
    (case af_s_NoStream_TooMany => k_is)
    (case af_s_NoStream_RowsError => k_is)
    (case af_s_NoStream_Absent => k_is)
    (case af_s_NoStream_Barred => k_is)
    (case af_s_NoStream_ValueError => k_is)
    (case af_s_NoStream_LookupError => k_is)
    (case af_s_NoStream_RuntimeError => k_is)
    (case af_s_NoStream_ArithmeticError => k_is)
    (case af_k_Busy => k_is)
    (case af_x_Busy => k_exc)
    (case af_b_Busy => k_is)
    (case af_eg_Busy => k_is)
    (case af_ek_Busy => k_is)
    (case af_ed_Busy => k_is)
    (case af_ea_Busy => k_is)
    (case af_em_Busy => k_is)
    (case af_s_Busy_NoNumber => k_is)
    (case af_s_Busy_Busy => k_is)
    (case af_s_Busy_NoPlace => k_is)
    (case af_s_Busy_NoOrder => k_is)
    (case af_s_Busy_NoPattern => k_is)
    (case af_s_Busy_NoLetter => k_is)
    (case af_s_Busy_NoTicket => k_is)
    (case af_s_Busy_NoSize => k_is)
    (case af_s_Busy_NoEnd => k_is)
    (case af_s_Busy_NoDeed => k_is)
    (case af_s_Busy_NoText => k_is)
    (case af_s_Busy_NoRow => k_is)
    (case af_s_Busy_NoForm => k_is)
    (case af_s_Busy_Halted => k_is)
    (case af_s_Busy_NoBack => k_is)
    (case af_s_Busy_NoSuch => k_is)
    (case af_s_Busy_NoStream => k_is)
    (case af_s_Busy_Taken => k_is)
    (case af_s_Busy_Same => k_is)
    (case af_s_Busy_Spent => k_is)
    (case af_s_Busy_Twice => k_is)
    (case af_s_Busy_TooMany => k_is)
    (case af_s_Busy_RowsError => k_is)
    (case af_s_Busy_Absent => k_is)
    (case af_s_Busy_Barred => k_is)
    (case af_s_Busy_ValueError => k_is)
    (case af_s_Busy_LookupError => k_is)
    (case af_s_Busy_RuntimeError => k_is)
    (case af_s_Busy_ArithmeticError => k_is)
    (case af_k_Taken => k_is)
    (case af_ai_Taken => kx_is)
    (case af_ao_Taken => kx_is)
    (case af_ed_Taken => k_is)
    (case af_sa_Taken => k_is)
    (case af_b_Taken => k_is)
    (case af_n_Taken_name => k_is)
    (case af_sg_Barred => k_is)
    (case af_rd_Barred => k_is)
    (case af_fv_Barred => k_is)
    (case af_eg_Taken => k_is)
    (case af_ek_Taken => k_is)
    (case af_ea_Taken => k_is)
    (case af_em_Taken => k_is)
    (case af_s_Taken_NoNumber => k_is)
    (case af_s_Taken_Taken => k_is)
    (case af_s_Taken_NoPlace => k_is)
    (case af_s_Taken_NoOrder => k_is)
    (case af_s_Taken_NoPattern => k_is)
    (case af_s_Taken_NoLetter => k_is)
    (case af_s_Taken_NoTicket => k_is)
    (case af_s_Taken_NoSize => k_is)
    (case af_s_Taken_NoEnd => k_is)
    (case af_s_Taken_NoDeed => k_is)
    (case af_s_Taken_NoText => k_is)
    (case af_s_Taken_NoRow => k_is)
    (case af_s_Taken_NoForm => k_is)
    (case af_s_Taken_Halted => k_is)
    (case af_s_Taken_NoBack => k_is)
    (case af_s_Taken_NoSuch => k_is)
    (case af_s_Taken_NoStream => k_is)
    (case af_s_Taken_Busy => k_is)
    (case af_s_Taken_Same => k_is)
    (case af_s_Taken_Spent => k_is)
    (case af_s_Taken_Twice => k_is)
    (case af_s_Taken_TooMany => k_is)
    (case af_s_Taken_RowsError => k_is)
    (case af_s_Taken_Absent => k_is)
    (case af_s_Taken_Barred => k_is)
    (case af_s_Taken_ValueError => k_is)
    (case af_s_Taken_LookupError => k_is)
    (case af_s_Taken_RuntimeError => k_is)
    (case af_s_Taken_ArithmeticError => k_is)
    (case af_k_Same => k_is)
    (case af_ai_Same => kx_is)
    (case af_ao_Same => kx_is)
    (case af_ed_Same => k_is)
    (case af_sa_Same => k_is)
    (case af_b_Same => k_is)
    (case af_n_Same_name => k_is)
    (case af_eg_Same => k_is)
    (case af_ek_Same => k_is)
    (case af_ea_Same => k_is)
    (case af_em_Same => k_is)
    (case af_s_Same_NoNumber => k_is)
    (case af_s_Same_Same => k_is)
    (case af_s_Same_NoPlace => k_is)
    (case af_s_Same_NoOrder => k_is)
    (case af_s_Same_NoPattern => k_is)
    (case af_s_Same_NoLetter => k_is)
    (case af_s_Same_NoTicket => k_is)
    (case af_s_Same_NoSize => k_is)
    (case af_s_Same_NoEnd => k_is)
    (case af_s_Same_NoDeed => k_is)
    (case af_s_Same_NoText => k_is)
    (case af_s_Same_NoRow => k_is)
    (case af_s_Same_NoForm => k_is)
    (case af_s_Same_Halted => k_is)
    (case af_s_Same_NoBack => k_is)
    (case af_s_Same_NoSuch => k_is)
    (case af_s_Same_NoStream => k_is)
    (case af_s_Same_Busy => k_is)
    (case af_s_Same_Taken => k_is)
    (case af_s_Same_Spent => k_is)
    (case af_s_Same_Twice => k_is)
    (case af_s_Same_TooMany => k_is)
    (case af_s_Same_RowsError => k_is)
    (case af_s_Same_Absent => k_is)
    (case af_s_Same_Barred => k_is)
    (case af_s_Same_ValueError => k_is)
    (case af_s_Same_LookupError => k_is)
    (case af_s_Same_RuntimeError => k_is)
    (case af_s_Same_ArithmeticError => k_is)
    (case af_k_Spent => k_is)
    (case af_ai_Spent => kx_is)
    (case af_ao_Spent => kx_is)
    (case af_ed_Spent => k_is)
    (case af_sa_Spent => k_is)
    (case af_b_Spent => k_is)
    (case af_n_Spent_letter => k_is)
    (case af_eg_Spent => k_is)
    (case af_ek_Spent => k_is)
    (case af_ea_Spent => k_is)
    (case af_em_Spent => k_is)
    (case af_s_Spent_NoNumber => k_is)
    (case af_s_Spent_Spent => k_is)
    (case af_s_Spent_NoPlace => k_is)
    (case af_s_Spent_NoOrder => k_is)
    (case af_s_Spent_NoPattern => k_is)
    (case af_s_Spent_NoLetter => k_is)
    (case af_s_Spent_NoTicket => k_is)
    (case af_s_Spent_NoSize => k_is)
    (case af_s_Spent_NoEnd => k_is)
    (case af_s_Spent_NoDeed => k_is)
    (case af_s_Spent_NoText => k_is)
    (case af_s_Spent_NoRow => k_is)
    (case af_s_Spent_NoForm => k_is)
    (case af_s_Spent_Halted => k_is)
    (case af_s_Spent_NoBack => k_is)
    (case af_s_Spent_NoSuch => k_is)
    (case af_s_Spent_NoStream => k_is)
    (case af_s_Spent_Busy => k_is)
    (case af_s_Spent_Taken => k_is)
    (case af_s_Spent_Same => k_is)
    (case af_s_Spent_Twice => k_is)
    (case af_s_Spent_TooMany => k_is)
    (case af_s_Spent_RowsError => k_is)
    (case af_s_Spent_Absent => k_is)
    (case af_s_Spent_Barred => k_is)
    (case af_s_Spent_ValueError => k_is)
    (case af_s_Spent_LookupError => k_is)
    (case af_s_Spent_RuntimeError => k_is)
    (case af_s_Spent_ArithmeticError => k_is)
    (case af_k_Twice => k_is)
    (case af_ai_Twice => kx_is)
    (case af_ao_Twice => kx_is)
    (case af_ed_Twice => k_is)
    (case af_sa_Twice => k_is)
    (case af_b_Twice => k_is)
    (case af_n_Twice_ticket => k_is)
    (case af_eg_Twice => k_is)
    (case af_ek_Twice => k_is)
    (case af_ea_Twice => k_is)
    (case af_em_Twice => k_is)
    (case af_s_Twice_NoNumber => k_is)
    (case af_s_Twice_Twice => k_is)
    (case af_s_Twice_NoPlace => k_is)
    (case af_s_Twice_NoOrder => k_is)
    (case af_s_Twice_NoPattern => k_is)
    (case af_s_Twice_NoLetter => k_is)
    (case af_s_Twice_NoTicket => k_is)
    (case af_s_Twice_NoSize => k_is)
    (case af_s_Twice_NoEnd => k_is)
    (case af_s_Twice_NoDeed => k_is)
    (case af_s_Twice_NoText => k_is)
    (case af_s_Twice_NoRow => k_is)
    (case af_s_Twice_NoForm => k_is)
    (case af_s_Twice_Halted => k_is)
    (case af_s_Twice_NoBack => k_is)
    (case af_s_Twice_NoSuch => k_is)
    (case af_s_Twice_NoStream => k_is)
    (case af_s_Twice_Busy => k_is)
    (case af_s_Twice_Taken => k_is)
    (case af_s_Twice_Same => k_is)
    (case af_s_Twice_Spent => k_is)
    (case af_s_Twice_TooMany => k_is)
    (case af_s_Twice_RowsError => k_is)
    (case af_s_Twice_Absent => k_is)
    (case af_s_Twice_Barred => k_is)
    (case af_s_Twice_ValueError => k_is)
    (case af_s_Twice_LookupError => k_is)
    (case af_s_Twice_RuntimeError => k_is)
    (case af_s_Twice_ArithmeticError => k_is)
    (case af_k_TooMany => k_is)
    (case af_ai_TooMany => kx_is)
    (case af_ao_TooMany => kx_is)
    (case af_ed_TooMany => k_is)
    (case af_sa_TooMany => k_is)
    (case af_b_TooMany => k_is)
    (case af_n_TooMany_tickets => k_is)
    (case af_n_TooMany_lines => k_is)
    (case af_fv_ArithmeticError => k_is)
    (case af_eg_TooMany => k_is)
    (case af_ek_TooMany => k_is)
    (case af_ea_TooMany => k_is)
    (case af_em_TooMany => k_is)
    (case af_s_TooMany_NoNumber => k_is)
    (case af_s_TooMany_TooMany => k_is)
    (case af_s_TooMany_NoPlace => k_is)
    (case af_s_TooMany_NoOrder => k_is)
    (case af_s_TooMany_NoPattern => k_is)
    (case af_s_TooMany_NoLetter => k_is)
    (case af_s_TooMany_NoTicket => k_is)
    (case af_s_TooMany_NoSize => k_is)
    (case af_s_TooMany_NoEnd => k_is)
    (case af_s_TooMany_NoDeed => k_is)
    (case af_s_TooMany_NoText => k_is)
    (case af_s_TooMany_NoRow => k_is)
    (case af_s_TooMany_NoForm => k_is)
    (case af_s_TooMany_Halted => k_is)
    (case af_s_TooMany_NoBack => k_is)
    (case af_s_TooMany_NoSuch => k_is)
    (case af_s_TooMany_NoStream => k_is)
    (case af_s_TooMany_Busy => k_is)
    (case af_s_TooMany_Taken => k_is)
    (case af_s_TooMany_Same => k_is)
    (case af_s_TooMany_Spent => k_is)
    (case af_s_TooMany_Twice => k_is)
    (case af_s_TooMany_RowsError => k_is)
    (case af_s_TooMany_Absent => k_is)
    (case af_s_TooMany_Barred => k_is)
    (case af_s_TooMany_ValueError => k_is)
    (case af_s_TooMany_LookupError => k_is)
    (case af_s_TooMany_RuntimeError => k_is)
    (case af_s_TooMany_ArithmeticError => k_is)
    (case af_en_ => k_is)
    (case af_et_ => k_is)
    (case z_len => k_is)
    (case z_abs => k_is)
    (case z_max => k_is)
    (case z_divmod => k_is)
    (case z_isinstance => k_is)
    (case z_ValueError => k_is)
    (case z_LookupError => k_is)
    (case z_RuntimeError => k_is)
    (case z_ArithmeticError => k_is)
    (case z_enumerate => k_is)
    (case z_range => k_is)
    (case z_int => k_is)
