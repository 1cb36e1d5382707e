import PyProof.Rows.All
import Wide.All
import OpenK.AllK
import Wide.FinOn
import HandS.ForMost
import HandS.Exc
import HandS.TupAny
import HandS.Conv
import HandS.TupMul
import HandS.Text
import HandS.WideBits
import HandS.EndBits
import HandS.Wide
import HandS.TupLe
import HandS.IsInst
import HandS.NoneIn
import PyProof.ReprRoads
import HandS.Deep
import HandS.Dict
import HandS.ExcOwn
import KE.KExcIs
import KE.KIsAll
import HandS.ExcIs
import HandS.TupSets
import HandS.SetFor
import HandS.Strs
import PyProof.ListStr
import HandS.Zip
import KE.GoesEnumKw
import HandS.More
import HandS.ExcInit
import HandS.ExcField
import HandS.Style
import HandS.TryOnly
import KE.GoesMore
import KE.GoesEnum
import HandS.Defaults
import HandS.MakeKw
import PyProof.ReprBulk
import HandS.TryMany
import PySem.Challenge.RW_ticketrows_k16_what_is_told_first
import KE.KIntText
import KE.KxText
import PyProof.Rows.StrNews2
import KE.IntTextText
set_option Elab.async false
set_option linter.all false
set_option maxRecDepth 100000
set_option maxHeartbeats 4000000
/-! Tk1: plain data D, what represents it in an abstract heap, environments with owned cells. -/
namespace Tk
open PySem L2

inductive D where
  | non
  | bl (b : Bool)
  | int (i : Int)
  | str (x : Str)
  | tup (l : List D)
  | lst (l : List D)
  | dct (ks : List Key) (l : List D)
  | obj (c : Nat) (l : List D)
  | fn (n : Nat)
  | scr (ns : List Int)

/-- what is known of the text: the written part, the classes and defs that data may name -/
structure Tb where
  K : PySem.W.Frag
  cls : Nat → Option (Addr × List Str)
  fns : Nat → Option Addr
  /-- the exception that a suite holds: where it lies, its class, its dict -/
  exa : Option (Addr × Value × Option Addr)

abbrev Hid := Addr → Prop
/-- a list that is seen: tracked and not hidden -/
def SeenL (G : Tb) (A : Hid) (H : Hp) (a : Addr) (vs : List V) : Prop := ¬ A a ∧ H a = some (.lst vs)
theorem SeenL.sq {G : Tb} {A : Hid} {H : Hp} {a : Addr} {vs : List V} (h : SeenL G A H a vs) : SqL G.K H a vs := .inl (.inl h.2)
/-- the script -/
def Scr (G : Tb) (A : Hid) (H : Hp) (a : Addr) (vs : List V) : Prop := (¬ A a ∧ ∃ o, H a = some (.frz o (.lst vs))) ∨ SqL G.K (fun _ => none) a vs
theorem Scr.sq {G : Tb} {A : Hid} {H : Hp} {a : Addr} {vs : List V} (h : Scr G A H a vs) : SqL G.K H a vs := by
  rcases h with ⟨_, h⟩ | (h | h)
  · exact .inl (.inr h)
  · rcases h with h | ⟨_, h⟩ <;> cases h
  · exact .inr h

/-- a tuple that is known to the object, or the module's: it has no dict of its own -/
def SqF (K : PySem.W.Frag) (H : Hp) (a : Addr) (xs : List V) : Prop :=
  (∃ o, H a = some (.frz o (.tup xs)) ∧ o.dict = none) ∨
    ∃ (o : Obj) (its : Array Value) (n : Nat), K.lookup a = some o ∧ o.cls = .type "tuple" ∧ o.dict = none ∧ o.data = .seq its n ∧ its.size ≤ sizeLine ∧ Vals xs its.toList
theorem SqF.t {K : PySem.W.Frag} {H : Hp} {a : Addr} {xs : List V} (h : SqF K H a xs) : SqT K H a xs := by
  rcases h with ⟨o, h, _⟩ | ⟨o, its, n, h1, h2, _, h3, h4, h5⟩
  · exact .inl (.inr ⟨o, h⟩)
  · exact .inr ⟨o, its, n, h1, h2, h3, h4, h5⟩

mutual
def RepD (G : Tb) (A : Hid) (H : Hp) : D → V → Prop
  | .non, v => v = .non
  | .bl b, v => v = .bl b
  | .int i, v => v = .int i
  | .str x, v => v = .str x
  | .tup l, v => ∃ a vs, v = .ref a ∧ SqF G.K H a vs ∧ RepDs G A H l vs
  | .lst l, v => ∃ a vs, v = .ref a ∧ SeenL G A H a vs ∧ RepDs G A H l vs
  | .dct ks l, v => ∃ a vs, v = .ref a ∧ ¬ A a ∧ Rd H a (.dK (ks.zip vs)) ∧ ks.length = vs.length ∧ RepDs G A H l vs
  | .obj c l, v => ∃ a C dx ns vs, v = .ref a ∧ ¬ A a ∧ H a = some (.ins C dx (ns.zip vs)) ∧ G.cls c = some (C, ns) ∧ ns.length = vs.length ∧ RepDs G A H l vs
  | .fn n, v => ∃ a, v = .ref a ∧ G.fns n = some a
  | .scr ns, v => ∃ a, v = .ref a ∧ Scr G A H a (ns.map V.int)
def RepDs (G : Tb) (A : Hid) (H : Hp) : List D → List V → Prop
  | [], vs => vs = []
  | d :: ds, vs => ∃ v r, vs = v :: r ∧ RepD G A H d v ∧ RepDs G A H ds r
end

/-- the thing that an address holds, itself hidden -/
def RepTop (G : Tb) (A : Hid) (H : Hp) : D → Addr → Prop
  | .lst l, p => ∃ vs, H p = some (.lst vs) ∧ RepDs G A H l vs
  | .dct ks l, p => ∃ vs, H p = some (.dK (ks.zip vs)) ∧ ks.length = vs.length ∧ RepDs G A H l vs
  | .obj c l, p => ∃ C dx ns vs, H p = some (.ins C dx (ns.zip vs)) ∧ G.cls c = some (C, ns) ∧ ns.length = vs.length ∧ RepDs G A H l vs
  | _, _ => False

/-- what is seen stays -/
def Stab (A : Hid) (H : Hp) (A' : Hid) (H' : Hp) : Prop := ∀ a o, H a = some o → ¬ A a → H' a = some o ∧ ¬ A' a
/-- tuples are never hidden -/
def TupOk (A : Hid) (H : Hp) : Prop := ∀ p, A p → ∃ o, H p = some o ∧ (∀ xs, o ≠ .tup xs) ∧ ∀ o' xs, o ≠ .frz o' (.tup xs)

theorem Stab.refl (A : Hid) (H : Hp) : Stab A H A H := fun _ _ h n => ⟨h, n⟩
theorem Stab.trans {A A1 A2 : Hid} {H H1 H2 : Hp} (x : Stab A H A1 H1) (y : Stab A1 H1 A2 H2) : Stab A H A2 H2 := fun a o h n =>
  let ⟨h1, n1⟩ := x a o h n
  y a o h1 n1

theorem Stab.rd {A A' : Hid} {H H' : Hp} (s : Stab A H A' H') {a : Addr} {u : HO} (n : ¬ A a) (r : Rd H a u) : Rd H' a u ∧ ¬ A' a := by
  rcases r with r | ⟨o, r⟩
  · exact ⟨.inl (s a _ r n).1, (s a _ r n).2⟩
  · exact ⟨.inr ⟨o, (s a _ r n).1⟩, (s a _ r n).2⟩

theorem Stab.sqT {K : PySem.W.Frag} {A A' : Hid} {H H' : Hp} (s : Stab A H A' H') (t : TupOk A H) {a : Addr} {xs : List V} (h : SqT K H a xs) : SqT K H' a xs := by
  rcases h with h | h
  · have n : ¬ A a := fun ha => by
      obtain ⟨o, e, n1, n2⟩ := t a ha
      rcases h with h | ⟨o', h⟩
      · rw [e] at h
        exact n1 _ (Option.some.inj h)
      · rw [e] at h
        exact n2 _ _ (Option.some.inj h)
    exact .inl (s.rd n h).1
  · exact .inr h

theorem Stab.sqF {K : PySem.W.Frag} {A A' : Hid} {H H' : Hp} (s : Stab A H A' H') (t : TupOk A H) {a : Addr} {xs : List V} (h : SqF K H a xs) : SqF K H' a xs := by
  rcases h with ⟨o, h, d⟩ | h
  · have n : ¬ A a := fun ha => by
      obtain ⟨o', e, _, n2⟩ := t a ha
      rw [e] at h
      exact n2 _ _ (Option.some.inj h)
    exact .inl ⟨o, (s a _ h n).1, d⟩
  · exact .inr h

mutual
theorem RepD.mono {G : Tb} {A A' : Hid} {H H' : Hp} (s : Stab A H A' H') (t : TupOk A H) : ∀ (d : D) (v : V), RepD G A H d v → RepD G A' H' d v
  | .non, _, h => h
  | .bl _, _, h => h
  | .int _, _, h => h
  | .str _, _, h => h
  | .tup l, _, h => by
    unfold RepD at h ⊢
    obtain ⟨a, vs, e, q, r⟩ := h
    exact ⟨a, vs, e, s.sqF t q, RepDs.mono s t l vs r⟩
  | .lst l, _, h => by
    unfold RepD at h ⊢
    obtain ⟨a, vs, e, q, r⟩ := h
    refine ⟨a, vs, e, ?_, RepDs.mono s t l vs r⟩
    exact ⟨(s a _ q.2 q.1).2, (s a _ q.2 q.1).1⟩
  | .dct ks l, _, h => by
    unfold RepD at h ⊢
    obtain ⟨a, vs, e, n, q, z, r⟩ := h
    exact ⟨a, vs, e, (s.rd n q).2, (s.rd n q).1, z, RepDs.mono s t l vs r⟩
  | .obj c l, _, h => by
    unfold RepD at h ⊢
    obtain ⟨a, C, dx, ns, vs, e, n, q, k, z, r⟩ := h
    exact ⟨a, C, dx, ns, vs, e, (s a _ q n).2, (s a _ q n).1, k, z, RepDs.mono s t l vs r⟩
  | .fn _, _, h => h
  | .scr ns, _, h => by
    unfold RepD at h ⊢
    obtain ⟨a, e, q⟩ := h
    refine ⟨a, e, ?_⟩
    rcases q with ⟨n, o, q⟩ | q
    · exact .inl ⟨(s a _ q n).2, o, (s a _ q n).1⟩
    · exact .inr q
theorem RepDs.mono {G : Tb} {A A' : Hid} {H H' : Hp} (s : Stab A H A' H') (t : TupOk A H) : ∀ (ds : List D) (vs : List V), RepDs G A H ds vs → RepDs G A' H' ds vs
  | [], _, h => h
  | d :: ds, _, h => by
    unfold RepDs at h ⊢
    obtain ⟨v, r, e, q, z⟩ := h
    exact ⟨v, r, e, RepD.mono s t d v q, RepDs.mono s t ds r z⟩
end

theorem RepDs.length {G : Tb} {A : Hid} {H : Hp} : ∀ {ds : List D} {vs : List V}, RepDs G A H ds vs → ds.length = vs.length
  | [], _, h => by
    unfold RepDs at h
    subst h
    rfl
  | d :: ds, _, h => by
    unfold RepDs at h
    obtain ⟨v, r, e, _, z⟩ := h
    subst e
    show ds.length + 1 = r.length + 1
    rw [RepDs.length z]
theorem RepDs.nil {G : Tb} {A : Hid} {H : Hp} : RepDs G A H [] [] := by
  unfold RepDs
  rfl
theorem RepDs.cons {G : Tb} {A : Hid} {H : Hp} {d : D} {v : V} {ds : List D} {vs : List V} (h : RepD G A H d v) (r : RepDs G A H ds vs) : RepDs G A H (d :: ds) (v :: vs) := by
  unfold RepDs
  exact ⟨v, vs, rfl, h, r⟩
theorem RepDs.inv {G : Tb} {A : Hid} {H : Hp} {d : D} {ds : List D} {vs : List V} (h : RepDs G A H (d :: ds) vs) : ∃ v r, vs = v :: r ∧ RepD G A H d v ∧ RepDs G A H ds r := by
  unfold RepDs at h
  exact h
theorem RepDs.inv0 {G : Tb} {A : Hid} {H : Hp} {vs : List V} (h : RepDs G A H [] vs) : vs = [] := by
  unfold RepDs at h
  exact h
theorem RepDs.append {G : Tb} {A : Hid} {H : Hp} : ∀ {ds es : List D} {vs ws : List V}, RepDs G A H ds vs → RepDs G A H es ws → RepDs G A H (ds ++ es) (vs ++ ws)
  | [], _, _, _, h, k => by
    obtain rfl := h.inv0
    exact k
  | d :: ds, _, _, _, h, k => by
    obtain ⟨v, r, rfl, h1, h2⟩ := h.inv
    exact .cons h1 (h2.append k)
theorem RepDs.get {G : Tb} {A : Hid} {H : Hp} : ∀ {ds : List D} {vs : List V} {i : Nat} {d : D}, RepDs G A H ds vs → ds[i]? = some d → ∃ v, vs[i]? = some v ∧ RepD G A H d v
  | [], _, _, _, _, e => by simp at e
  | x :: ds, _, 0, d, h, e => by
    obtain ⟨v, r, rfl, h1, _⟩ := h.inv
    have e' : x = d := Option.some.inj e
    subst e'
    exact ⟨v, rfl, h1⟩
  | x :: ds, _, i + 1, d, h, e => by
    obtain ⟨v, r, rfl, _, h2⟩ := h.inv
    have e' : ds[i]? = some d := e
    obtain ⟨u, k1, k2⟩ := h2.get e'
    exact ⟨u, k1, k2⟩
theorem RepDs.take {G : Tb} {A : Hid} {H : Hp} : ∀ {ds : List D} {vs : List V} (n : Nat), RepDs G A H ds vs → RepDs G A H (ds.take n) (vs.take n)
  | [], _, n, h => by
    obtain rfl := h.inv0
    cases n <;> exact .nil
  | d :: ds, _, 0, h => by
    obtain ⟨v, r, rfl, _, _⟩ := h.inv
    exact .nil
  | d :: ds, _, n + 1, h => by
    obtain ⟨v, r, rfl, h1, h2⟩ := h.inv
    exact .cons h1 (h2.take n)
theorem RepDs.drop {G : Tb} {A : Hid} {H : Hp} : ∀ {ds : List D} {vs : List V} (n : Nat), RepDs G A H ds vs → RepDs G A H (ds.drop n) (vs.drop n)
  | [], _, n, h => by
    obtain rfl := h.inv0
    cases n <;> exact .nil
  | d :: ds, _, 0, h => h
  | d :: ds, _, n + 1, h => by
    obtain ⟨v, r, rfl, h1, h2⟩ := h.inv
    exact h2.drop n
theorem RepDs.set {G : Tb} {A : Hid} {H : Hp} {d : D} {v : V} (hd : RepD G A H d v) : ∀ {ds : List D} {vs : List V} (n : Nat), RepDs G A H ds vs → RepDs G A H (ds.set n d) (vs.set n v)
  | [], _, n, h => by
    obtain rfl := h.inv0
    exact .nil
  | _ :: ds, _, 0, h => by
    obtain ⟨_, r, rfl, _, h2⟩ := h.inv
    exact .cons hd h2
  | _ :: ds, _, n + 1, h => by
    obtain ⟨_, r, rfl, h1, h2⟩ := h.inv
    exact .cons h1 (RepDs.set hd n h2)
theorem RepDs.eraseIdx {G : Tb} {A : Hid} {H : Hp} : ∀ {ds : List D} {vs : List V} (n : Nat), RepDs G A H ds vs → RepDs G A H (ds.eraseIdx n) (vs.eraseIdx n)
  | [], _, n, h => by
    obtain rfl := h.inv0
    exact .nil
  | _ :: ds, _, 0, h => by
    obtain ⟨_, r, rfl, _, h2⟩ := h.inv
    exact h2
  | _ :: ds, _, n + 1, h => by
    obtain ⟨_, r, rfl, h1, h2⟩ := h.inv
    exact .cons h1 (RepDs.eraseIdx n h2)

theorem RepTop.mono {G : Tb} {A A' : Hid} {H H' : Hp} (s : Stab A H A' H') (t : TupOk A H) {d : D} {p : Addr} (k : ∀ o, H p = some o → H' p = some o) (h : RepTop G A H d p) : RepTop G A' H' d p := by
  cases d with
  | lst l =>
    obtain ⟨vs, e, r⟩ := h
    exact ⟨vs, k _ e, r.mono s t⟩
  | dct ks l =>
    obtain ⟨vs, e, z, r⟩ := h
    exact ⟨vs, k _ e, z, r.mono s t⟩
  | obj c l =>
    obtain ⟨C, dx, ns, vs, e, c, z, r⟩ := h
    exact ⟨C, dx, ns, vs, k _ e, c, z, r.mono s t⟩
  | non => exact h
  | bl _ => exact h
  | int _ => exact h
  | str _ => exact h
  | tup _ => exact h
  | fn _ => exact h
  | scr _ => exact h
/-- unhidden, it is data -/
theorem RepTop.dat {G : Tb} {A : Hid} {H : Hp} {d : D} {p : Addr} (n : ¬ A p) (h : RepTop G A H d p) : RepD G A H d (.ref p) := by
  cases d with
  | lst l =>
    obtain ⟨vs, e, r⟩ := h
    unfold RepD
    exact ⟨p, vs, rfl, ⟨n, e⟩, r⟩
  | dct ks l =>
    obtain ⟨vs, e, z, r⟩ := h
    unfold RepD
    exact ⟨p, vs, rfl, n, .inl e, z, r⟩
  | obj c l =>
    obtain ⟨C, dx, ns, vs, e, c, z, r⟩ := h
    unfold RepD
    exact ⟨p, C, dx, ns, vs, rfl, n, e, c, z, r⟩
  | non => exact h.elim
  | bl _ => exact h.elim
  | int _ => exact h.elim
  | str _ => exact h.elim
  | tup _ => exact h.elim
  | fn _ => exact h.elim
  | scr _ => exact h.elim
theorem RepTop.some {G : Tb} {A : Hid} {H : Hp} {d : D} {p : Addr} (h : RepTop G A H d p) : ∃ o, H p = Option.some o ∧ (∀ xs, o ≠ .tup xs) ∧ ∀ o' xs, o ≠ .frz o' (.tup xs) := by
  cases d with
  | lst l =>
    obtain ⟨vs, e, r⟩ := h
    exact ⟨_, e, (fun _ z => by cases z), (fun _ _ z => by cases z)⟩
  | dct ks l =>
    obtain ⟨vs, e, z, r⟩ := h
    exact ⟨_, e, (fun _ z => by cases z), (fun _ _ z => by cases z)⟩
  | obj c l =>
    obtain ⟨C, dx, ns, vs, e, c, z, r⟩ := h
    exact ⟨_, e, (fun _ z => by cases z), (fun _ _ z => by cases z)⟩
  | non => exact h.elim
  | bl _ => exact h.elim
  | int _ => exact h.elim
  | str _ => exact h.elim
  | tup _ => exact h.elim
  | fn _ => exact h.elim
  | scr _ => exact h.elim

/-! ### environments -/
/-- an exception: its class by number, its fields -/
structure Exc where
  cls : Nat
  fs : List D
inductive Cell where
  | dat (d : D)
  | own (d : D)
  | exc (x : Exc)
/-- an exception's fields lie in its dict -/
def XFs (G : Tb) (A : Hid) (H : Hp) (x : Exc) (d : Option Addr) : Prop := (x.fs = [] ∧ d = none) ∨ ∃ C ns p vs, d = some p ∧ ¬ A p ∧ G.cls x.cls = some (C, ns) ∧ H p = some (.xd (ns.zip vs)) ∧ ns.length = vs.length ∧ RepDs G A H x.fs vs
theorem XFs.mono {G : Tb} {A A' : Hid} {H H' : Hp} (s : Stab A H A' H') (t : TupOk A H) {x : Exc} {d : Option Addr} (h : XFs G A H x d) : XFs G A' H' x d := by
  rcases h with h | ⟨C, ns, p, vs, e, n, c, hp, l, r⟩
  · exact .inl h
  · exact .inr ⟨C, ns, p, vs, e, (s p _ hp n).2, c, (s p _ hp n).1, l, r.mono s t⟩
abbrev Env := List (Option Cell)

def CellOk (G : Tb) (A : Hid) (H : Hp) : Cell → V → Prop
  | .dat d, v => RepD G A H d v
  | .own d, v => ∃ p, v = .ref p ∧ A p ∧ RepTop G A H d p
  | .exc x, v => ∃ a C d ns, v = .ref a ∧ G.exa = some (a, .ref C, d) ∧ G.cls x.cls = some (C, ns) ∧ XFs G A H x d
theorem CellOk.exc_mono {G : Tb} {A A' : Hid} {H H' : Hp} (s : Stab A H A' H') (t : TupOk A H) {x : Exc} {v : V} (h : CellOk G A H (.exc x) v) : CellOk G A' H' (.exc x) v := by
  obtain ⟨a, C, d, ns, e1, e2, e3, f⟩ := h
  exact ⟨a, C, d, ns, e1, e2, e3, f.mono s t⟩

def Own (σ : St) (env : Env) : Hid := fun p => ∃ (i : Nat) (d : D), env[i]? = some (some (.own d)) ∧ σ[i]? = some (some (.ref p))

structure Rep (G : Tb) (A : Hid) (σ : St) (H : Hp) (env : Env) : Prop where
  len : env.length = σ.length
  tup : TupOk A H
  cell : ∀ (i : Nat) c, env[i]? = some (some c) → ∃ v, σ[i]? = some (some v) ∧ CellOk G A H c v
  inj : ∀ (i j : Nat) d e v, env[i]? = some (some (.own d)) → env[j]? = some (some (.own e)) → σ[i]? = some (some v) → σ[j]? = some (some v) → i = j

theorem Rep.own_hid {G : Tb} {A : Hid} {σ : St} {H : Hp} {env : Env} (R : Rep G A σ H env) {p : Addr} (o : Own σ env p) : A p := by
  obtain ⟨i, d, e1, e2⟩ := o
  obtain ⟨v, e3, q, e4, h, _⟩ := R.cell i _ e1
  rw [e2] at e3
  cases e3
  cases e4
  exact h

/-- from one state to a later one: what isn't own is as it was -/
structure Fr (O A : Hid) (H : Hp) (O' A' : Hid) (H' : Hp) : Prop where
  keep : ∀ a o, H a = some o → ¬ O a → H' a = some o ∧ (A' a ↔ A a)
  own : ∀ p, O' p → O p ∨ H p = none
  dom : ∀ a o, H a = some o → ∃ o', H' a = some o'

theorem Fr.refl (O A : Hid) (H : Hp) : Fr O A H O A H := ⟨fun _ _ h _ => ⟨h, Iff.rfl⟩, fun _ h => .inl h, fun _ o h => ⟨o, h⟩⟩
theorem Fr.trans {O A O1 A1 O2 A2 : Hid} {H H1 H2 : Hp} (x : Fr O A H O1 A1 H1) (y : Fr O1 A1 H1 O2 A2 H2) : Fr O A H O2 A2 H2 := by
  refine ⟨fun a o h n => ?_, fun p hp => ?_, fun a o h => ?_⟩
  · obtain ⟨h1, i1⟩ := x.keep a o h n
    have n1 : ¬ O1 a := fun z => by
      rcases x.own a z with q | q
      · exact n q
      · rw [h] at q
        cases q
    obtain ⟨h2, i2⟩ := y.keep a o h1 n1
    exact ⟨h2, i2.trans i1⟩
  · rcases y.own p hp with q | q
    · exact x.own p q
    · refine .inr ?_
      cases z : H p with
      | none => rfl
      | some o =>
        obtain ⟨o', e⟩ := x.dom p o z
        rw [e] at q
        cases q
  · obtain ⟨o1, h1⟩ := x.dom a o h
    exact y.dom a o1 h1
theorem Fr.stab {O A O' A' : Hid} {H H' : Hp} (x : Fr O A H O' A' H') (h : ∀ p, O p → A p) : Stab A H A' H' := fun a o e n =>
  let ⟨h1, i1⟩ := x.keep a o e fun z => n (h a z)
  ⟨h1, fun z => n (i1.mp z)⟩
theorem Fr.none {O A O' A' : Hid} {H H' : Hp} (x : Fr O A H O' A' H') {p : Addr} (h : H' p = Option.none) : H p = Option.none := by
  cases z : H p with
  | none => rfl
  | some o =>
    obtain ⟨o', e⟩ := x.dom p o z
    rw [e] at h
    cases h

/-! ### what an expression gives -/
inductive Out where
  | dat (d : D)
  | fresh (d : D)
  | slot (i : Nat)
/-- H0: the heap ahead of the expression -/
def OutOk (G : Tb) (H0 : Hp) (A : Hid) (σ : St) (H : Hp) (env : Env) : Out → V → Prop
  | .dat d, v => RepD G A H d v
  | .fresh d, v => ∃ p, v = .ref p ∧ H0 p = none ∧ A p ∧ ¬ Own σ env p ∧ RepTop G A H d p
  | .slot i, v => σ[i]? = some (some v)

inductive Rs (α : Type) where
  | ok (a : α) (env : Env)
  | ex (x : Exc) (env : Env)
abbrev EF := Env → Option (Rs Out)

def bd {α β : Type} (r : Option (Rs α)) (k : α → Env → Option (Rs β)) : Option (Rs β) :=
  match r with
  | some (.ok a e) => k a e
  | some (.ex x e) => some (.ex x e)
  | none => none
theorem bd_ok {α β : Type} {a : α} {e : Env} {k : α → Env → Option (Rs β)} : bd (some (.ok a e)) k = k a e := rfl
/-- how an exception of the table looks: its class, its own dict, the heap -/
abbrev XW := Tb → Exc → Value → Option Addr → Hid → Hp → Prop

/-- the usual one -/
def XRx : XW := fun G x c d A H => ∃ C ns, G.cls x.cls = some (C, ns) ∧ c = .ref C ∧ XFs G A H x d

/-- the wish behind an evaluation that began at (A, H, env) -/
def Post {α : Type} (G : Tb) (XR : XW) (W : WX) (σ : St) (A : Hid) (H : Hp) (env : Env) (K : α → Env → Hid → Hp → Prop) : Option (Rs α) → Prop
  | none => False
  | some (.ok a env') => ∀ A' H', Rep G A' σ H' env' → Fr (Own σ env) A H (Own σ env') A' H' → K a env' A' H'
  | some (.ex x env') => ∀ A' H' c d, Rep G A' σ H' env' → Fr (Own σ env) A H (Own σ env') A' H' → XR G x c d A' H' → W c d σ H'

theorem Post.imp {α : Type} {G : Tb} {XR : XW} {W : WX} {σ : St} {A A1 : Hid} {H H1 : Hp} {env env1 : Env} {K K' : α → Env → Hid → Hp → Prop} (f : Fr (Own σ env) A H (Own σ env1) A1 H1)
    (h : ∀ a e A' H', Fr (Own σ env1) A1 H1 (Own σ e) A' H' → K a e A' H' → K' a e A' H') : ∀ {r : Option (Rs α)}, Post G XR W σ A H env K r → Post G XR W σ A1 H1 env1 K' r
  | none, q => q
  | some (.ok a e), q => fun A' H' R F => h a e A' H' F (q A' H' R (f.trans F))
  | some (.ex x e), q => fun A' H' c d R F X => q A' H' c d R (f.trans F) X

end Tk
/-! Tk0: what makes a tuple, told with the tuple's own object: it has no dict. -/
namespace Tk
open PySem PySem.Spec PyProof.Rows L2
/-- a new tuple of these items, its object known -/
abbrev NewT (H : Hp) (Q : VK) (xs : List V) : Prop := ∀ (p : Addr) (o : Obj), H p = none → o.dict = none → Q (.ref p) (upd H p (.frz o (.tup xs)))
section
variable {X : Cx} {pins : List (Addr × Obj)} {σ : L2.St} {H : Hp} {s : Shared}
theorem ep_tup {Q : VK} {xs : List V} {its : List Value} {ar : Array Value} {h' : Heap} {t0 tk : Nat} (I : Inv X pins σ H { s with heap := h', toks := t0 }) (r : Vals xs its) (har : ar.toList = its) (hz : xs.length ≤ sizeLine) (q : NewT H Q xs) :
    EP X pins σ Q (.ref h'.objs.size) { s with heap := h'.push { cls := .type "tuple", data := .seq ar }, toks := tk } := by
  subst har
  exact ⟨.ref h'.objs.size, upd H h'.objs.size (.frz { cls := .type "tuple", data := .seq ar } (.tup xs)),
    I.laid (t' := tk) (fun b o e => Heap.get?_push_of_some _ e) (Nat.le_refl _) ⟨Heap.get?_push_size _ rfl, hz, ar.toList, r, by rw [Array.toArray_toList]; exact IsTup.new _ _⟩, rfl, q _ _ (I.hok.fresh (Nat.le_refl _)) rfl⟩
theorem ep_tup0 {Q : VK} {xs : List V} {its : List Value} {ar : Array Value} {tk : Nat} (I : Inv X pins σ H s) (r : Vals xs its) (har : ar.toList = its) (hz : xs.length ≤ sizeLine) (q : NewT H Q xs) :
    EP X pins σ Q (.ref s.heap.objs.size) { s with heap := s.heap.push { cls := .type "tuple", data := .seq ar }, toks := tk } := ep_tup (s := s) (h' := s.heap) (t0 := s.toks) I r har hz q
end
section
variable {X : Cx} {es : List Expr} {pos : Pos} {t : TA}
/-- a display -/
def tTupF (t : TA) : TE := fun σ H Q => t σ H fun xs H1 => xs.length ≤ sizeLine ∧ NewT H1 Q xs
theorem pe_tupF {x1 : Nat} (h : PA X es t) : PE X (.Tuple es x1 pos) (tTupF t) := ⟨fun pins s σ H Q I hq =>
  wpAny_Tuple_spliced (thn (h.run pos pins s σ H _ I hq) fun us s1 ⟨xs, H1, I1, r, z, q⟩ => ⟨r.length ▸ z, ep_tup0 I1 r (by simp) z q⟩)⟩
/-- tuple(x) -/
def rTupleF (K : PySem.W.Frag) : List V → Hp → VK → Prop := fun xs H Q => ∃ p ys, xs = [.ref p] ∧ ((SqL K H p ys ∧ NewT H Q ys) ∨ (SqT K H p ys ∧ Q (.ref p) H))
theorem call_tupleF : CallR X (.type "tuple") (rTupleF X.K) := by
  rintro pins s σ H xs us Q I r ⟨p, ys, rfl, ⟨hq, q⟩ | ⟨hq, q⟩⟩ <;> obtain ⟨u, rfl, rx⟩ := vals1 r <;> cases rx
  · obtain ⟨its, r', pl, hz⟩ := I.list hq
    have hlen := r'.length
    exact call_tuple_list pl.isList (fun h' kp => ep_tup (t0 := s.toks) (I.kept kp) r' (by simp) hz q) (by rw [List.size_toArray, ← hlen]; exact hz)
  · obtain ⟨its, r', pl, hz⟩ := I.tuple hq
    exact call_tuple_same pl ⟨.ref p, H, I, rfl, q⟩
/-- t + u -/
def rCatF (K : PySem.W.Frag) : R2 := fun x y H Q => ∃ a b xs ys, x = .ref a ∧ y = .ref b ∧ SqT K H a xs ∧ SqT K H b ys ∧ xs.length + ys.length ≤ sizeLine ∧
  (xs = [] → Q (.ref b) H) ∧ (xs ≠ [] → ys = [] → Q (.ref a) H) ∧ (xs ≠ [] → ys ≠ [] → NewT H Q (xs ++ ys))
theorem op_catF : OpR X (binaryOp .Add) (rCatF X.K) := by
  rintro pins s σ H x y v u Q I rx ry ⟨a, b, xs, ys, rfl, rfl, ha, hb, hz, q0, q1, q2⟩
  by_cases hx : xs = []
  · exact op_catA pins s σ H _ _ v u Q I rx ry ⟨a, b, xs, ys, rfl, rfl, ha, hb, hz, q0, fun z => absurd hx z, fun z => absurd hx z⟩
  cases rx
  cases ry
  obtain ⟨its, r1, p1, _⟩ := I.tuple ha
  obtain ⟨its2, r2, p2, _⟩ := I.tuple hb
  exact HT.cat_tup p1 p2 (fun z => hx (r1.nil_iff.mp z)) (fun z => ⟨.ref a, H, I, rfl, q1 hx (r2.nil_iff.mp z)⟩)
    (fun z => ep_tup0 I (r1.append r2) (by simp) (by rw [List.length_append]; exact hz) (q2 hx fun w => z (r2.nil_iff.mpr w))) (by rw [← r1.length, ← r2.length]; exact hz)
/-- t[lo:hi] -/
def rSlF (K : PySem.W.Frag) : V → Option Int → Option Int → Hp → VK → Prop := fun x lo hi H Q => ∃ a xs, x = .ref a ∧ SqT K H a xs ∧
  (HT.sIx xs.length 0 lo = 0 ∧ HT.sIx xs.length xs.length hi = xs.length → Q (.ref a) H) ∧ (¬ (HT.sIx xs.length 0 lo = 0 ∧ HT.sIx xs.length xs.length hi = xs.length) → NewT H Q (cutV xs lo hi))
theorem sl_tupF : SlR X (rSlF X.K) := by
  rintro pins s σ H x v vl vu lo hi sl Q I rx hs pl pu ⟨a, xs, rfl, hx, q1, q2⟩
  by_cases hw : HT.sIx xs.length 0 lo = 0 ∧ HT.sIx xs.length xs.length hi = xs.length
  · exact sl_tupA pins s σ H _ v vl vu lo hi sl Q I rx hs pl pu ⟨a, xs, rfl, hx, q1, fun z => absurd hw z⟩
  cases rx
  obtain ⟨its, r, ht, hz⟩ := I.tuple hx
  have hlen : its.toArray.size = xs.length := by rw [List.size_toArray, r.length]
  refine ⟨"tuple", _, PyProof.Rows.slot_tuple_getitem.lookup, ht.typeIs, HT.getItem_tuple_cut ht hs pl pu (by rw [hlen]; exact hw) ?_ (by rw [hlen]; exact hz)⟩
  rw [hlen]
  exact ep_tup0 I ((r.drop (HT.sIx xs.length 0 lo)).take (HT.sIx xs.length xs.length hi - HT.sIx xs.length 0 lo)) (by simp) (Nat.le_trans (cutV_length xs lo hi) hz) (q2 hw)
/-- divmod -/
def rDivF : List V → Hp → VK → Prop := fun xs H Q => ∃ i j, xs = [.int i, .int j] ∧ CDivP i j ∧ NewT H Q [.int (i / j), .int (i % j)]
theorem call_divmodF : CallR X (.builtin "divmod") rDivF := by
  rintro pins s σ H xs us Q I r ⟨i, j, rfl, ⟨h1, h2⟩, q⟩
  obtain ⟨u, w', rfl, ⟨t, rfl⟩, ⟨t', rfl⟩⟩ := vals2 r
  refine divmod_int (by omega) ?_ (.inl h2)
  rw [Int.fdiv_eq_ediv_of_nonneg i (by omega), Int.fmod_eq_emod_of_nonneg i (by omega)]
  exact ep_tup0 (xs := [.int (i / j), .int (i % j)]) (its := [.int (i / j) s.toks, .int (i % j) (s.toks + 1)]) I (.cons (by exact ⟨_, rfl⟩) (.cons (by exact ⟨_, rfl⟩) .nil)) rfl (by show 2 ≤ sizeLine; decide) q
/-- x.partition(y) -/
def rPartF : V → List V → Hp → VK → Prop := fun x xs H Q => ∃ a b, x = .str a ∧ xs = [.str b] ∧ (b.length == 0) = false ∧ a.length ≤ sizeLine ∧ NewT H Q [.str (Txt.partition a b).1, .str (Txt.partition a b).2.1, .str (Txt.partition a b).2.2]
end
end Tk
/-! Tk2: expressions. -/
namespace Tk
open PySem L2

/-! ### small words -/
theorem PE_imp {X : Cx} {e : Expr} {t t' : TE} (h : PE X e t) (i : ∀ σ H Q, t' σ H Q → t σ H Q) : PE X e t' := ⟨fun pins s σ H Q I q => h.run pins s σ H Q I (i σ H Q q)⟩
theorem PT_imp {X : Cx} {e : Expr} {t t' : TT} (h : PT X e t) (i : ∀ σ H Q, t' σ H Q → t σ H Q) : PT X e t' := ⟨fun pins s σ H Q I q => h.run pins s σ H Q I (i σ H Q q)⟩
theorem PW_imp {X : Cx} {e : Expr} {t t' : TT} (h : PW X e t) (i : ∀ σ H Q, t' σ H Q → t σ H Q) : PW X e t' := ⟨fun wh pins s σ H Q I q => h.run wh pins s σ H Q I (i σ H Q q)⟩
theorem PA_imp {X : Cx} {e : List Expr} {t t' : TA} (h : PA X e t) (i : ∀ σ H Q, t' σ H Q → t σ H Q) : PA X e t' := ⟨fun pos pins s σ H Q I q => h.run pos pins s σ H Q I (i σ H Q q)⟩
theorem PS_imp {X : Cx} {e : Stmt} {t t' : TS} (h : PS X e t) (i : ∀ D σ H, t' D σ H → t D σ H) : PS X e t' := ⟨fun pins s σ H D I q => h.run pins s σ H D I (i D σ H q)⟩
theorem PSs_imp {X : Cx} {e : List Stmt} {t t' : TS} (h : PSs X e t) (i : ∀ D σ H, t' D σ H → t D σ H) : PSs X e t' := ⟨fun pins s σ H D I q => h.run pins s σ H D I (i D σ H q)⟩

structure Good (G : Tb) (X : Cx) : Prop where
  calm : X.calm = true
  kk : X.K = G.K
  nd : X.N.Nodup
  un : X.A.units + 150 < cLine
  gu : X.A.guards = some []

/-- what comes out of an operation -/
inductive RV where
  | dat (d : D)
  | fresh (d : D)
def RV.out : RV → Out
  | .dat d => .dat d
  | .fresh d => .fresh d

def peek (env : Env) : Out → Option D
  | .dat d => some d
  | .fresh d => some d
  | .slot i => match env[i]? with
    | some (some (.dat d)) => some d
    | some (some (.own d)) => some d
    | _ => none

/-- data, its top perhaps hidden -/
def RepT (G : Tb) (A : Hid) (H : Hp) (d : D) (v : V) : Prop := RepD G A H d v ∨ ∃ p, v = .ref p ∧ A p ∧ RepTop G A H d p

structure Ext (A : Hid) (H : Hp) (A' : Hid) (H' : Hp) : Prop where
  same : ∀ a o, H a = some o → H' a = some o ∧ (A' a ↔ A a)
  tup : TupOk A' H'
theorem Ext.stab {A A' : Hid} {H H' : Hp} (x : Ext A H A' H') : Stab A H A' H' := fun a o e n => ⟨(x.same a o e).1, fun z => n ((x.same a o e).2.mp z)⟩
theorem Ext.refl {A : Hid} {H : Hp} (t : TupOk A H) : Ext A H A H := ⟨fun _ _ h => ⟨h, Iff.rfl⟩, t⟩

def RvOk (G : Tb) (H : Hp) (A' : Hid) (H' : Hp) : RV → V → Prop
  | .dat d, v => RepD G A' H' d v
  | .fresh d, v => ∃ p, v = .ref p ∧ H p = none ∧ A' p ∧ RepTop G A' H' d p

section
variable {G : Tb} {A A' : Hid} {σ : St} {H H' H0 : Hp} {env : Env}

theorem peek_ok {o : Out} {v : V} {d : D} (R : Rep G A σ H env) (h : OutOk G H0 A σ H env o v) (e : peek env o = some d) : RepT G A H d v := by
  cases o with
  | dat d' =>
    have e' : d' = d := Option.some.inj e
    subst e'
    exact .inl h
  | fresh d' =>
    have e' : d' = d := Option.some.inj e
    subst e'
    obtain ⟨p, e1, _, a, _, t⟩ := h
    exact .inr ⟨p, e1, a, t⟩
  | slot i =>
    have h : σ[i]? = some (some v) := h
    unfold peek at e
    simp only at e
    split at e
    · rename_i d' e1
      have e' : d' = d := Option.some.inj e
      subst e'
      obtain ⟨u, e2, c⟩ := R.cell i _ e1
      rw [h] at e2
      cases e2
      exact .inl c
    · rename_i d' e1
      have e' : d' = d := Option.some.inj e
      subst e'
      obtain ⟨u, e2, p, e3, a, t⟩ := R.cell i _ e1
      rw [h] at e2
      cases e2
      exact .inr ⟨p, e3, a, t⟩
    · cases e

theorem Rep.own_some (R : Rep G A σ H env) {p : Addr} (o : Own σ env p) : ∃ x, H p = some x := by
  obtain ⟨x, e, _⟩ := R.tup p (R.own_hid o)
  exact ⟨x, e⟩

theorem Ext.rep (x : Ext A H A' H') (R : Rep G A σ H env) : Rep G A' σ H' env := by
  refine ⟨R.len, x.tup, fun i c e => ?_, R.inj⟩
  obtain ⟨v, e1, k⟩ := R.cell i c e
  refine ⟨v, e1, ?_⟩
  cases c with
  | dat d => exact RepD.mono x.stab R.tup d v k
  | exc y => exact CellOk.exc_mono x.stab R.tup k
  | own d =>
    obtain ⟨p, e2, a, t⟩ := k
    obtain ⟨o, e3, _⟩ := R.tup p a
    exact ⟨p, e2, (x.same p o e3).2.mpr a, t.mono x.stab R.tup fun o' q => (x.same p o' q).1⟩
theorem Ext.fr (x : Ext A H A' H') (O : Hid) : Fr O A H O A' H' := ⟨fun a o h _ => x.same a o h, fun p h => .inl h, fun a o h => ⟨o, (x.same a o h).1⟩⟩

theorem OutOk.mono {A1 A2 : Hid} {H1 H2 : Hp} {env1 env2 : Env} {o : Out} {v : V} (R1 : Rep G A1 σ H1 env1) (f : Fr (Own σ env1) A1 H1 (Own σ env2) A2 H2) (h : OutOk G H0 A1 σ H1 env1 o v) : OutOk G H0 A2 σ H2 env2 o v := by
  have s : Stab A1 H1 A2 H2 := f.stab fun p q => R1.own_hid q
  cases o with
  | dat d => exact RepD.mono s R1.tup d v h
  | fresh d =>
    obtain ⟨p, e1, e2, a, n, t⟩ := h
    obtain ⟨o, e3, _⟩ := R1.tup p a
    refine ⟨p, e1, e2, (f.keep p o e3 n).2.mpr a, fun z => ?_, t.mono s R1.tup fun o' q => (f.keep p o' q n).1⟩
    rcases f.own p z with q | q
    · exact n q
    · rw [e3] at q
      cases q
  | slot i => exact h
/-- an earlier heap ahead -/
theorem OutOk.base {H1 : Hp} {o : Out} {v : V} (k : ∀ p, H0 p = none → H1 p = none) (h : OutOk G H0 A σ H env o v) : OutOk G H1 A σ H env o v := by
  cases o with
  | dat d => exact h
  | fresh d =>
    obtain ⟨p, e1, e2, r⟩ := h
    exact ⟨p, e1, k p e2, r⟩
  | slot i => exact h
theorem RvOk.out {rv : RV} {v : V} (R : Rep G A σ H env) (k : ∀ p, H p = none → H0 p = none) (h : RvOk G H A' H' rv v) : OutOk G H0 A' σ H' env rv.out v := by
  cases rv with
  | dat d => exact h
  | fresh d =>
    obtain ⟨p, e1, e2, a, t⟩ := h
    refine ⟨p, e1, k p e2, a, fun z => ?_, t⟩
    obtain ⟨x, e⟩ := R.own_some z
    rw [e2] at e
    cases e
end

/-! ### readings -/
section
variable (G : Tb) (XR : XW) (W : WX)
def tEv (f : EF) : TE := fun σ H Q => ∃ A env, Rep G A σ H env ∧ Post G XR W σ A H env (fun o e A' H' => ∀ v, OutOk G H A' σ H' e o v → Q v H') (f env)
abbrev UF := Env → Option (Rs D)
abbrev AF := Env → Option (Rs (List D))
abbrev TF := Env → Option (Rs Bool)
def tEvU (f : UF) : TE := fun σ H Q => ∃ A env, Rep G A σ H env ∧ Post G XR W σ A H env (fun d _ A' H' => ∀ v, RepD G A' H' d v → Q v H') (f env)
def tEvA (f : AF) : TA := fun σ H Q => ∃ A env, Rep G A σ H env ∧ Post G XR W σ A H env (fun ds _ A' H' => ∀ vs, RepDs G A' H' ds vs → Q vs H') (f env)
def tEvT (f : TF) : TT := fun σ H Q => ∃ A env, Rep G A σ H env ∧ Post G XR W σ A H env (fun b _ _ H' => Q b H') (f env)
end

section
variable {G : Tb} {XR : XW} {W : WX} {X : Cx}

/-- one after another -/
theorem ev_seq {β : Type} {f : EF} {k : Out → Env → Option (Rs β)} {KK : β → Env → Hid → Hp → Prop} {σ : St} {A : Hid} {H : Hp} {env : Env} (R : Rep G A σ H env) (p : Post G XR W σ A H env KK (bd (f env) k)) :
    tEv G XR W f σ H (fun x H1 => ∃ A1 env1 o1, Rep G A1 σ H1 env1 ∧ OutOk G H A1 σ H1 env1 o1 x ∧ Fr (Own σ env) A H (Own σ env1) A1 H1 ∧ Post G XR W σ A1 H1 env1 KK (k o1 env1)) := by
  refine ⟨A, env, R, ?_⟩
  cases hf : f env with
  | none =>
    rw [hf] at p
    exact p
  | some r =>
    rw [hf] at p
    cases r with
    | ok o e1 => exact fun A1 H1 R1 F1 v ov => ⟨A1, e1, o, R1, ov, F1, Post.imp F1 (fun _ _ _ _ _ q => q) p⟩
    | ex x e1 => exact p
theorem evU_seq {β : Type} {f : UF} {k : D → Env → Option (Rs β)} {KK : β → Env → Hid → Hp → Prop} {σ : St} {A : Hid} {H : Hp} {env : Env} (R : Rep G A σ H env) (p : Post G XR W σ A H env KK (bd (f env) k)) :
    tEvU G XR W f σ H (fun x H1 => ∃ A1 env1 d1, Rep G A1 σ H1 env1 ∧ RepD G A1 H1 d1 x ∧ Fr (Own σ env) A H (Own σ env1) A1 H1 ∧ Post G XR W σ A1 H1 env1 KK (k d1 env1)) := by
  refine ⟨A, env, R, ?_⟩
  cases hf : f env with
  | none =>
    rw [hf] at p
    exact p
  | some r =>
    rw [hf] at p
    cases r with
    | ok o e1 => exact fun A1 H1 R1 F1 v ov => ⟨A1, e1, o, R1, ov, F1, Post.imp F1 (fun _ _ _ _ _ q => q) p⟩
    | ex x e1 => exact p
theorem evA_seq {β : Type} {f : AF} {k : List D → Env → Option (Rs β)} {KK : β → Env → Hid → Hp → Prop} {σ : St} {A : Hid} {H : Hp} {env : Env} (R : Rep G A σ H env) (p : Post G XR W σ A H env KK (bd (f env) k)) :
    tEvA G XR W f σ H (fun x H1 => ∃ A1 env1 d1, Rep G A1 σ H1 env1 ∧ RepDs G A1 H1 d1 x ∧ Fr (Own σ env) A H (Own σ env1) A1 H1 ∧ Post G XR W σ A1 H1 env1 KK (k d1 env1)) := by
  refine ⟨A, env, R, ?_⟩
  cases hf : f env with
  | none =>
    rw [hf] at p
    exact p
  | some r =>
    rw [hf] at p
    cases r with
    | ok o e1 => exact fun A1 H1 R1 F1 v ov => ⟨A1, e1, o, R1, ov, F1, Post.imp F1 (fun _ _ _ _ _ q => q) p⟩
    | ex x e1 => exact p
theorem evT_seq {β : Type} {f : TF} {k : Bool → Env → Option (Rs β)} {KK : β → Env → Hid → Hp → Prop} {σ : St} {A : Hid} {H : Hp} {env : Env} (R : Rep G A σ H env) (p : Post G XR W σ A H env KK (bd (f env) k)) :
    tEvT G XR W f σ H (fun b H1 => ∃ A1 env1, Rep G A1 σ H1 env1 ∧ Fr (Own σ env) A H (Own σ env1) A1 H1 ∧ Post G XR W σ A1 H1 env1 KK (k b env1)) := by
  refine ⟨A, env, R, ?_⟩
  cases hf : f env with
  | none =>
    rw [hf] at p
    exact p
  | some r =>
    rw [hf] at p
    cases r with
    | ok o e1 => exact fun A1 H1 R1 F1 => ⟨A1, e1, R1, F1, Post.imp F1 (fun _ _ _ _ _ q => q) p⟩
    | ex x e1 => exact p

/-- readings grow with the wish -/
theorem tEv.imp {f : EF} {σ : St} {H : Hp} {Q Q' : VK} (h : tEv G XR W f σ H Q) (i : ∀ v H', Q v H' → Q' v H') : tEv G XR W f σ H Q' := by
  obtain ⟨A, env, R, p⟩ := h
  exact ⟨A, env, R, Post.imp (Fr.refl _ _ _) (fun _ _ _ _ _ q v o => i _ _ (q v o)) p⟩
theorem tEvU.imp {f : UF} {σ : St} {H : Hp} {Q Q' : VK} (h : tEvU G XR W f σ H Q) (i : ∀ v H', Q v H' → Q' v H') : tEvU G XR W f σ H Q' := by
  obtain ⟨A, env, R, p⟩ := h
  exact ⟨A, env, R, Post.imp (Fr.refl _ _ _) (fun _ _ _ _ _ q v o => i _ _ (q v o)) p⟩
theorem tEvA.imp {f : AF} {σ : St} {H : Hp} {Q Q' : List V → Hp → Prop} (h : tEvA G XR W f σ H Q) (i : ∀ v H', Q v H' → Q' v H') : tEvA G XR W f σ H Q' := by
  obtain ⟨A, env, R, p⟩ := h
  exact ⟨A, env, R, Post.imp (Fr.refl _ _ _) (fun _ _ _ _ _ q v o => i _ _ (q v o)) p⟩
theorem tEvT.imp {f : TF} {σ : St} {H : Hp} {Q Q' : Bool → Hp → Prop} (h : tEvT G XR W f σ H Q) (i : ∀ v H', Q v H' → Q' v H') : tEvT G XR W f σ H Q' := by
  obtain ⟨A, env, R, p⟩ := h
  exact ⟨A, env, R, Post.imp (Fr.refl _ _ _) (fun _ _ _ _ _ q => i _ _ q) p⟩

/-- the end of an operation -/
theorem fin_rv {σ : St} {A A' : Hid} {H H0 H' : Hp} {env : Env} {Q : VK} {rv : RV} {v : V} (R : Rep G A σ H env) (k : ∀ p, H p = none → H0 p = none)
    (p : Post G XR W σ A H env (fun o e A' H' => ∀ v, OutOk G H0 A' σ H' e o v → Q v H') (some (.ok rv.out env))) (x : Ext A H A' H') (h : RvOk G H A' H' rv v) : Q v H' :=
  p A' H' (x.rep R) (x.fr _) v (h.out R k)

/-! ### names, constants -/
def cName (i : Nat) : EF := fun env => match env[i]? with
  | some (some _) => some (.ok (.slot i) env)
  | _ => none
theorem ev_name {e : Expr} {i : Nat} (h : PE X e (tVar i)) : PE X e (tEv G XR W (cName i)) := PE_imp h fun σ H Q ⟨A, env, R, p⟩ => by
  unfold cName at p
  split at p
  · rename_i c e1
    obtain ⟨v, e2, _⟩ := R.cell i c e1
    exact ⟨v, e2, p A H R (Fr.refl _ _ _) v e2⟩
  · exact p.elim
def cC (d : D) : EF := fun env => some (.ok (.dat d) env)
theorem ev_c {e : Expr} {d : D} {v : V} (h : PE X e (tC v)) (r : ∀ A H, RepD G A H d v) : PE X e (tEv G XR W (cC d)) := PE_imp h fun σ H Q ⟨A, env, R, p⟩ => p A H R (Fr.refl _ _ _) v (r A H)
theorem ev_int {i j pos} : PE X (.Constant (.int i) j pos) (tEv G XR W (cC (.int i))) := ev_c pe_int fun _ _ => by unfold RepD; rfl
theorem ev_bl {i j pos} : PE X (.Constant (.bool i) j pos) (tEv G XR W (cC (.bl i))) := ev_c pe_bl fun _ _ => by unfold RepD; rfl
theorem ev_str {i j pos} : PE X (.Constant (.str i) j pos) (tEv G XR W (cC (.str i))) := ev_c pe_str fun _ _ => by unfold RepD; rfl
theorem ev_non {j pos} : PE X (.Constant .none j pos) (tEv G XR W (cC .non)) := ev_c pe_non fun _ _ => by unfold RepD; rfl

/-! ### operations of one, two places -/
def fin1 (F : D → Option RV) (e : Env) (o : Out) : Option (Rs Out) := match peek e o with
  | some d => match F d with
    | some rv => some (.ok rv.out e)
    | none => none
  | none => none
def fin2 (F : D → D → Option RV) (e : Env) (o o' : Out) : Option (Rs Out) := match peek e o, peek e o' with
  | some d, some d' => match F d d' with
    | some rv => some (.ok rv.out e)
    | none => none
  | _, _ => none
def cUn (F : D → Option RV) (f : EF) : EF := fun env => bd (f env) fun o e => fin1 F e o
def cBin (F : D → D → Option RV) (f g : EF) : EF := fun env => bd (f env) fun o e => bd (g e) fun o' e' => fin2 F e' o o'

def Op1 (G : Tb) (r : V → Hp → VK → Prop) (F : D → Option RV) : Prop := ∀ (d : D) (rv : RV) (A : Hid) (H : Hp) (x : V) (Q : VK), F d = some rv → TupOk A H → RepT G A H d x → (∀ v A' H', Ext A H A' H' → RvOk G H A' H' rv v → Q v H') → r x H Q
def Op2 (G : Tb) (r : R2) (F : D → D → Option RV) : Prop := ∀ (d d' : D) (rv : RV) (A : Hid) (H : Hp) (x y : V) (Q : VK), F d d' = some rv → TupOk A H → RepT G A H d x → RepT G A H d' y →
  (∀ v A' H', Ext A H A' H' → RvOk G H A' H' rv v → Q v H') → r x y H Q

theorem use1 {r : V → Hp → VK → Prop} {F : D → Option RV} (hF : Op1 G r F) {f : EF} {σ : St} {H : Hp} {Q : VK} (h : tEv G XR W (cUn F f) σ H Q) : tEv G XR W f σ H fun x H1 => r x H1 Q := by
  obtain ⟨A, env, R, p⟩ := h
  refine (ev_seq R p).imp fun x H1 ⟨A1, e1, o1, R1, ok, F1, p1⟩ => ?_
  unfold fin1 at p1
  split at p1
  · rename_i d hd
    split at p1
    · rename_i rv hr
      exact hF d rv A1 H1 x Q hr R1.tup (peek_ok R1 ok hd) fun v A' H' ex ro => fin_rv R1 (fun p q => F1.none q) p1 ex ro
    · exact p1.elim
  · exact p1.elim
theorem use2 {r : R2} {F : D → D → Option RV} (hF : Op2 G r F) {f g : EF} {σ : St} {H : Hp} {Q : VK} (h : tEv G XR W (cBin F f g) σ H Q) : tEv G XR W f σ H fun x H1 => tEv G XR W g σ H1 fun y H2 => r x y H2 Q := by
  obtain ⟨A, env, R, p⟩ := h
  refine (ev_seq R p).imp fun x H1 ⟨A1, e1, o1, R1, ok, F1, p1⟩ => ?_
  refine (ev_seq R1 p1).imp fun y H2 ⟨A2, e2, o2, R2, ok2, F2, p2⟩ => ?_
  have okx := ok.mono R1 F2
  unfold fin2 at p2
  split at p2
  · rename_i d d' hd hd'
    split at p2
    · rename_i rv hr
      exact hF d d' rv A2 H2 x y Q hr R2.tup (peek_ok R2 okx hd) (peek_ok R2 ok2 hd') fun v A' H' ex ro => fin_rv R2 (fun p q => F1.none (F2.none q)) p2 ex ro
    · exact p2.elim
  · exact p2.elim

theorem ev_op {a b : Expr} {pos : Pos} {op : Operator} {r : R2} {F : D → D → Option RV} {f g : EF} (ho : OpR X (binaryOp op) r) (hF : Op2 G r F) (ha : PE X a (tEv G XR W f)) (hb : PE X b (tEv G XR W g)) : PE X (.BinOp a op b pos) (tEv G XR W (cBin F f g)) :=
  PE_imp (pe_op ho ha hb) fun _ _ _ h => use2 hF h
theorem ev_un {a : Expr} {pos : Pos} {op : UnaryOp} {r : V → Hp → VK → Prop} {F : D → Option RV} {f : EF} (ho : UnR X (unaryOp op) r) (hF : Op1 G r F) (ha : PE X a (tEv G XR W f)) : PE X (.UnaryOp op a pos) (tEv G XR W (cUn F f)) :=
  PE_imp (pe_un ho ha) fun _ _ _ h => use1 hF h
theorem ev_cmp {a b : Expr} {pos : Pos} {op : CmpOp} {r : R2} {F : D → D → Option RV} {f g : EF} (ho : OpR X (compareOp op) r) (hF : Op2 G r F) (ha : PE X a (tEv G XR W f)) (hb : PE X b (tEv G XR W g)) (hm : behindInMarks op b = false) :
    PE X (.Compare a [op] [b] pos) (tEv G XR W (cBin F f g)) := PE_imp (pe_cmpR ho ha hb hm) fun _ _ _ h => use2 hF h
theorem ev_ix {a b : Expr} {pos : Pos} {r : R2} {F : D → D → Option RV} {f g : EF} (ho : IxR X r) (hF : Op2 G r F) (ha : PE X a (tEv G XR W f)) (hb : PE X b (tEv G XR W g)) (hs : PlainIx b) : PE X (.Subscript a b pos) (tEv G XR W (cBin F f g)) :=
  PE_imp (pe_ix ho ha hb hs) fun _ _ _ h => use2 hF h

/-! ### built-in calls -/
def Cb1 (G : Tb) (r : List V → Hp → VK → Prop) (F : D → Option RV) : Prop := Op1 G (fun x H Q => r [x] H Q) F
def Cb2 (G : Tb) (r : List V → Hp → VK → Prop) (F : D → D → Option RV) : Prop := Op2 G (fun x y H Q => r [x, y] H Q) F
section
variable {x : Str} {p pos : Pos} {a b : Expr} {id T : String} {r : List V → Hp → VK → Prop} {f g : EF}
theorem ev_callB1 {F : D → Option RV} (hc : CallR X (.builtin id) r) (hF : Cb1 G r F) (hg : Gl X x) (hm : X.mg x = none) (hv : bootBuiltins x = some (.builtin id)) (ha : PE X a (tEv G XR W f)) (hn : x ≠ "__name__" := by decide)
    (hdb : (x == ("__debug__" : Str)) = false := by decide) (hs : starEach [a] X.env = [(false, eval a X.env)] := by rfl) : PE X (.Call (.Name x p) [a] [] pos) (tEv G XR W (cUn F f)) :=
  PE_imp (pe_callB hc hg hm hv (pa_cons ha pa_nil hs) hn hdb hs rfl) fun _ _ _ h => use1 hF h
theorem ev_callB2 {F : D → D → Option RV} (hc : CallR X (.builtin id) r) (hF : Cb2 G r F) (hg : Gl X x) (hm : X.mg x = none) (hv : bootBuiltins x = some (.builtin id)) (ha : PE X a (tEv G XR W f)) (hb : PE X b (tEv G XR W g)) (hn : x ≠ "__name__" := by decide)
    (hdb : (x == ("__debug__" : Str)) = false := by decide) (hs : starEach [a, b] X.env = (false, eval a X.env) :: starEach [b] X.env := by rfl) (hs2 : starEach [b] X.env = [(false, eval b X.env)] := by rfl) (hpl : (backTo pos (starEach [b] X.env)).any (·.1) = false := by rfl) :
    PE X (.Call (.Name x p) [a, b] [] pos) (tEv G XR W (cBin F f g)) :=
  PE_imp (pe_callB hc hg hm hv (pa_cons ha (pa_cons hb pa_nil hs2) hs) hn hdb hs hpl) fun _ _ _ h => use2 hF h
theorem ev_callT1 {F : D → Option RV} (hc : CallR X (.type T) r) (hF : Cb1 G r F) (hg : Gl X x) (hm : X.mg x = none) (hv : bootBuiltins x = some (.type T)) (ha : PE X a (tEv G XR W f)) (hn : x ≠ "__name__" := by decide)
    (hdb : (x == ("__debug__" : Str)) = false := by decide) (hs : starEach [a] X.env = [(false, eval a X.env)] := by rfl) : PE X (.Call (.Name x p) [a] [] pos) (tEv G XR W (cUn F f)) :=
  PE_imp (pe_callTy hc hg hm hv (pa_cons ha pa_nil hs) hn hdb hs rfl) fun _ _ _ h => use1 hF h
end

/-! ### data used: an own thing is own no more -/
def use (env : Env) : Out → Option (Rs D)
  | .dat d => some (.ok d env)
  | .fresh d => some (.ok d env)
  | .slot i => match env[i]? with
    | some (some (.dat d)) => some (.ok d env)
    | some (some (.own d)) => some (.ok d (env.set i (some (.dat d))))
    | _ => none
def cUse (f : EF) : UF := fun env => bd (f env) fun o e => use e o

theorem sub_stab {A A' : Hid} {H : Hp} (h : ∀ p, A' p → A p) : Stab A H A' H := fun _ _ e n => ⟨e, fun z => n (h _ z)⟩
theorem TupOk.sub {A A' : Hid} {H : Hp} (t : TupOk A H) (h : ∀ p, A' p → A p) : TupOk A' H := fun p q => t p (h p q)

/-- a fresh thing let go -/
theorem Rep.letGo {σ : St} {A : Hid} {H : Hp} {env : Env} (R : Rep G A σ H env) {p : Addr} (n : ¬ Own σ env p) : Rep G (fun a => A a ∧ a ≠ p) σ H env := by
  have hs : ∀ a, (A a ∧ a ≠ p) → A a := fun _ h => h.1
  refine ⟨R.len, R.tup.sub hs, fun i c e => ?_, R.inj⟩
  obtain ⟨v, e1, k⟩ := R.cell i c e
  refine ⟨v, e1, ?_⟩
  cases c with
  | dat d => exact RepD.mono (sub_stab hs) R.tup d v k
  | exc y => exact CellOk.exc_mono (sub_stab hs) R.tup k
  | own d =>
    obtain ⟨q, e2, a, t⟩ := k
    subst e2
    exact ⟨q, rfl, ⟨a, fun z => n ⟨i, d, e, z ▸ e1⟩⟩, t.mono (sub_stab hs) R.tup fun _ z => z⟩
theorem get_set_ne {env : Env} {i j : Nat} {c : Option Cell} (h : i ≠ j) : (env.set i c)[j]? = env[j]? := by
  rw [List.getElem?_set_ne h]
theorem get_set_self {env : Env} {i : Nat} {c c' : Option Cell} (h : env[i]? = some c') : (env.set i c)[i]? = some c := by
  have hl : i < env.length := (List.getElem?_eq_some_iff.mp h).1
  rw [List.getElem?_set_self hl]
theorem Rep.freeze {σ : St} {A : Hid} {H : Hp} {env : Env} (R : Rep G A σ H env) {i : Nat} {d : D} {p : Addr} (e : env[i]? = some (some (.own d))) (es : σ[i]? = some (some (.ref p))) :
    Rep G (fun a => A a ∧ a ≠ p) σ H (env.set i (some (.dat d))) ∧ (∀ q, Own σ (env.set i (some (.dat d))) q → Own σ env q ∧ q ≠ p) ∧ RepD G (fun a => A a ∧ a ≠ p) H d (.ref p) := by
  have hs : ∀ a, (A a ∧ a ≠ p) → A a := fun _ h => h.1
  obtain ⟨v, e1, q, e2, a, t⟩ := R.cell i _ e
  rw [es] at e1
  cases e1
  cases e2
  have rd : RepD G (fun a => A a ∧ a ≠ p) H d (.ref p) := (t.mono (sub_stab hs) R.tup fun _ z => z).dat fun z => z.2 rfl
  have ow : ∀ q, Own σ (env.set i (some (.dat d))) q → Own σ env q ∧ q ≠ p := fun q ⟨j, d', k1, k2⟩ => by
    by_cases hj : i = j
    · subst hj
      rw [get_set_self e] at k1
      cases k1
    · rw [get_set_ne hj] at k1
      exact ⟨⟨j, d', k1, k2⟩, fun z => hj (R.inj i j d d' (.ref p) e k1 es (z ▸ k2))⟩
  refine ⟨⟨by rw [List.length_set]; exact R.len, R.tup.sub hs, fun j c k => ?_, fun j1 j2 d1 d2 w k1 k2 k3 k4 => ?_⟩, ow, rd⟩
  · by_cases hj : i = j
    · subst hj
      rw [get_set_self e] at k
      cases k
      exact ⟨_, es, rd⟩
    · rw [get_set_ne hj] at k
      obtain ⟨u, e3, c3⟩ := R.cell j c k
      refine ⟨u, e3, ?_⟩
      cases c with
      | dat d' => exact RepD.mono (sub_stab hs) R.tup d' u c3
      | exc y => exact CellOk.exc_mono (sub_stab hs) R.tup c3
      | own d' =>
        obtain ⟨q, e4, a4, t4⟩ := c3
        subst e4
        exact ⟨q, rfl, ⟨a4, fun z => hj (R.inj i j d d' (.ref p) e k es (z ▸ e3))⟩, t4.mono (sub_stab hs) R.tup fun _ z => z⟩
  · have g : ∀ (j : Nat) (d' : D), (env.set i (some (.dat d)))[j]? = some (some (Cell.own d')) → env[j]? = some (some (.own d')) := fun j d' k => by
      by_cases hj : i = j
      · subst hj
        rw [get_set_self e] at k
        cases k
      · rw [get_set_ne hj] at k
        exact k
    exact R.inj j1 j2 d1 d2 w (g _ _ k1) (g _ _ k2) k3 k4

theorem use_ok {σ : St} {A A0 : Hid} {H H0 : Hp} {env env0 env' : Env} {o : Out} {v : V} {d : D} (R : Rep G A σ H env) (F0 : Fr (Own σ env0) A0 H0 (Own σ env) A H) (h : OutOk G H0 A σ H env o v) (e : use env o = some (.ok d env')) :
    ∃ A', Rep G A' σ H env' ∧ Fr (Own σ env0) A0 H0 (Own σ env') A' H ∧ RepD G A' H d v ∧ Stab A H A' H := by
  cases o with
  | dat d' =>
    cases e
    exact ⟨A, R, F0, h, Stab.refl _ _⟩
  | fresh d' =>
    cases e
    obtain ⟨p, e1, e2, a, n, t⟩ := h
    subst e1
    have hs : ∀ a, (A a ∧ a ≠ p) → A a := fun _ h => h.1
    refine ⟨fun a => A a ∧ a ≠ p, R.letGo n, ⟨fun b x hb nb => ⟨(F0.keep b x hb nb).1, ?_⟩, F0.own, F0.dom⟩, (t.mono (sub_stab hs) R.tup fun _ z => z).dat fun z => z.2 rfl, sub_stab hs⟩
    refine Iff.trans ⟨fun z => z.1, fun z => ⟨z, fun w => ?_⟩⟩ (F0.keep b x hb nb).2
    rw [w, e2] at hb
    cases hb
  | slot i =>
    have h : σ[i]? = some (some v) := h
    unfold use at e
    simp only at e
    split at e
    · rename_i d' e1
      cases e
      obtain ⟨u, e2, c⟩ := R.cell i _ e1
      rw [h] at e2
      cases e2
      exact ⟨A, R, F0, c, Stab.refl _ _⟩
    · rename_i d' e1
      cases e
      obtain ⟨u, e2, p, e3, a, t⟩ := R.cell i _ e1
      rw [h] at e2
      cases e2
      subst e3
      obtain ⟨r1, r2, r3⟩ := R.freeze e1 h
      have hs : ∀ a, (A a ∧ a ≠ p) → A a := fun _ h => h.1
      refine ⟨_, r1, ⟨fun b x hb nb => ⟨(F0.keep b x hb nb).1, ?_⟩, fun q hq => F0.own q (r2 q hq).1, F0.dom⟩, r3, sub_stab hs⟩
      refine Iff.trans ⟨fun z => z.1, fun z => ⟨z, fun w => ?_⟩⟩ (F0.keep b x hb nb).2
      rcases F0.own b ⟨i, d, e1, w ▸ h⟩ with q | q
      · exact nb q
      · rw [q] at hb
        cases hb
    · cases e

theorem ev_use {e : Expr} {f : EF} (h : PE X e (tEv G XR W f)) : PE X e (tEvU G XR W (cUse f)) := PE_imp h fun σ H Q ⟨A, env, R, p⟩ => by
  refine ⟨A, env, R, ?_⟩
  unfold cUse at p
  cases hf : f env with
  | none =>
    rw [hf] at p
    exact p
  | some r =>
    rw [hf] at p
    cases r with
    | ok o e1 =>
      intro A1 H1 R1 F1 v ov
      rw [bd_ok] at p
      cases hu : use e1 o with
      | none =>
        rw [hu] at p
        exact p.elim
      | some r2 =>
        rw [hu] at p
        cases r2 with
        | ok d e2 =>
          obtain ⟨A2, R2, F2, r, _⟩ := use_ok R1 F1 ov hu
          exact p A2 H1 R2 F2 v r
        | ex x e2 =>
          exfalso
          cases o with
          | dat d => cases hu
          | fresh d => cases hu
          | slot i =>
            unfold use at hu
            simp only at hu
            split at hu <;> cases hu
    | ex x e1 => exact p

/-! ### arguments, displays -/
def aNil : AF := fun env => some (.ok [] env)
def aCons (f : EF) (r : AF) : AF := fun env => bd (cUse f env) fun d e => bd (r e) fun ds e2 => some (.ok (d :: ds) e2)
theorem ea_nil : PA X [] (tEvA G XR W aNil) := PA_imp pa_nil fun σ H Q ⟨A, env, R, p⟩ => p A H R (Fr.refl _ _ _) [] .nil
theorem ea_cons {e : Expr} {es : List Expr} {f : EF} {r : AF} (h : PE X e (tEv G XR W f)) (hr : PA X es (tEvA G XR W r)) (hs : starEach (e :: es) X.env = (false, eval e X.env) :: starEach es X.env := by rfl) : PA X (e :: es) (tEvA G XR W (aCons f r)) :=
  PA_imp (pa_cons (ev_use h) hr hs) fun σ H Q ⟨A, env, R, p⟩ => by
    refine (evU_seq R p).imp fun x H1 ⟨A1, e1, d1, R1, k1, F1, p1⟩ => ?_
    refine (evA_seq R1 p1).imp fun xs H2 ⟨A2, e2, ds, R2, k2, F2, p2⟩ => ?_
    exact p2 A2 H2 R2 (Fr.refl _ _ _) (x :: xs) (.cons (RepD.mono (F2.stab fun p q => R1.own_hid q) R1.tup _ _ k1) k2)

/-- a new thing at a free place -/
theorem Ext.newTup {A : Hid} {H : Hp} (t : TupOk A H) {p : Addr} (n : H p = none) (o : HO) : Ext A H A (upd H p o) := by
  refine ⟨fun a x h => ⟨?_, Iff.rfl⟩, fun q hq => ?_⟩
  · rw [upd_ne (ne_of_none h n)]
    exact h
  · obtain ⟨x, e, r⟩ := t q hq
    refine ⟨x, ?_, r⟩
    rw [upd_ne (ne_of_none e n)]
    exact e
theorem Ext.newOwn {A : Hid} {H : Hp} (t : TupOk A H) {p : Addr} (n : H p = none) {o : HO} (h1 : ∀ xs, o ≠ .tup xs) (h2 : ∀ o' xs, o ≠ .frz o' (.tup xs)) : Ext A H (fun a => A a ∨ a = p) (upd H p o) := by
  refine ⟨fun a x h => ⟨?_, ⟨fun z => ?_, .inl⟩⟩, fun q hq => ?_⟩
  · rw [upd_ne (ne_of_none h n)]
    exact h
  · rcases z with z | z
    · exact z
    · rw [z, n] at h
      cases h
  · by_cases e : q = p
    · subst e
      exact ⟨o, upd_same, h1, h2⟩
    · rcases hq with hq | hq
      · obtain ⟨x, e', r⟩ := t q hq
        refine ⟨x, ?_, r⟩
        rw [upd_ne e]
        exact e'
      · exact absurd hq e
theorem rv_tup {A : Hid} {H : Hp} (t : TupOk A H) {ds : List D} {vs : List V} (r : RepDs G A H ds vs) {p : Addr} {o : Obj} (n : H p = none) (hd : o.dict = none) : RvOk G H A (upd H p (.frz o (.tup vs))) (.dat (.tup ds)) (.ref p) := by
  show RepD G A (upd H p (.frz o (.tup vs))) (.tup ds) (.ref p)
  unfold RepD
  exact ⟨p, vs, rfl, .inl ⟨o, upd_same, hd⟩, r.mono (Ext.newTup t n _).stab t⟩
theorem Ext.newLst {A : Hid} {H : Hp} (t : TupOk A H) {p : Addr} (n : H p = none) (xs : List V) : Ext A H (fun a => A a ∨ a = p) (upd H p (.lst xs)) := Ext.newOwn t n (fun _ z => by cases z) (fun _ _ z => by cases z)
theorem rv_lst {A : Hid} {H : Hp} (t : TupOk A H) {ds : List D} {vs : List V} (r : RepDs G A H ds vs) {p : Addr} (n : H p = none) : RvOk G H (fun a => A a ∨ a = p) (upd H p (.lst vs)) (.fresh (.lst ds)) (.ref p) :=
  ⟨p, rfl, n, .inr rfl, vs, upd_same, r.mono (Ext.newLst t n _).stab t⟩

def szOk (n : Nat) : Bool := decide (n ≤ 1000000)
theorem szOk.le {n : Nat} (h : szOk n = true) : n ≤ sizeLine := Nat.le_trans (of_decide_eq_true h) (by decide)
def cTup (a : AF) : EF := fun env => bd (a env) fun ds e => if szOk ds.length then some (.ok (.dat (.tup ds)) e) else none
def cLst (a : AF) : EF := fun env => bd (a env) fun ds e => if szOk ds.length then some (.ok (.fresh (.lst ds)) e) else none
theorem ev_tup {es : List Expr} {x1 : Nat} {pos : Pos} {a : AF} (h : PA X es (tEvA G XR W a)) : PE X (.Tuple es x1 pos) (tEv G XR W (cTup a)) := PE_imp (pe_tupF h) fun σ H Q ⟨A, env, R, p⟩ => by
  refine (evA_seq R p).imp fun xs H1 ⟨A1, e1, ds, R1, k1, F1, p1⟩ => ?_
  split at p1
  · rename_i hz
    refine ⟨by rw [← k1.length]; exact szOk.le hz, fun q ob hq hd => ?_⟩
    exact fin_rv (rv := .dat (.tup ds)) R1 (fun p q => F1.none q) p1 (Ext.newTup R1.tup hq _) (rv_tup R1.tup k1 hq hd)
  · exact p1.elim
theorem ev_lst {es : List Expr} {pos : Pos} {a : AF} (h : PA X es (tEvA G XR W a)) : PE X (.List es pos) (tEv G XR W (cLst a)) := PE_imp (pe_lst h) fun σ H Q ⟨A, env, R, p⟩ => by
  refine (evA_seq R p).imp fun xs H1 ⟨A1, e1, ds, R1, k1, F1, p1⟩ => ?_
  split at p1
  · rename_i hz
    refine ⟨by rw [← k1.length]; exact szOk.le hz, fun q hq => ?_⟩
    exact fin_rv (rv := .fresh (.lst ds)) R1 (fun p q => F1.none q) p1 (Ext.newLst R1.tup hq _) (rv_lst R1.tup k1 hq)
  · exact p1.elim

/-! ### tests -/
def cTest (f : EF) : TF := fun env => bd (f env) fun o e => match peek e o with
  | some (.bl b) => some (.ok b e)
  | _ => none
theorem test_of {f : EF} {σ : St} {H : Hp} {Q : Bool → Hp → Prop} (h : tEvT G XR W (cTest f) σ H Q) : tEv G XR W f σ H fun x H' => ∃ k, x = .bl k ∧ Q k H' := by
  obtain ⟨A, env, R, p⟩ := h
  refine (ev_seq R p).imp fun x H1 ⟨A1, e1, o1, R1, ok, F1, p1⟩ => ?_
  split at p1
  · rename_i b hb
    rcases peek_ok R1 ok hb with q | ⟨_, _, _, q⟩
    · unfold RepD at q
      exact ⟨b, q, p1 A1 H1 R1 (Fr.refl _ _ _)⟩
    · exact q.elim
  · exact p1.elim
theorem et_val {e : Expr} {f : EF} (h : PE X e (tEv G XR W f)) (he : ∀ whole, isTrue e X.env whole = (do let v ← whole; standAt e.pos; holding [v] (truthy v)) := by intro _; rfl) : PT X e (tEvT G XR W (cTest f)) :=
  PT_imp (pt_val h he) fun _ _ _ q => test_of q
theorem et_cmp {a b : Expr} {pos : Pos} {op : CmpOp} {r : R2} {F : D → D → Option RV} {f g : EF} (ho : OpR X (compareOp op) r) (hF : Op2 G r F) (ha : PE X a (tEv G XR W f)) (hb : PE X b (tEv G XR W g)) (hm : behindInMarks op b = false) :
    PT X (.Compare a [op] [b] pos) (tEvT G XR W (cTest (cBin F f g))) := PT_imp (pt_cmpR ho ha hb hm) fun σ H Q q => by
  have q1 := test_of q
  exact use2 hF q1
def tAndF (t u : TF) : TF := fun env => bd (t env) fun b e => if b = true then u e else some (.ok false e)
def tOrF (t u : TF) : TF := fun env => bd (t env) fun b e => if b = true then some (.ok true e) else u e
def tNotF (t : TF) : TF := fun env => bd (t env) fun b e => some (.ok (!b) e)
theorem ew_and1 {a : Expr} {pos : Pos} {t : TF} (h : PT X a (tEvT G XR W t)) : PW X (.BoolOp .And [a] pos) (tEvT G XR W t) := pw_and1 h
theorem ew_or1 {a : Expr} {pos : Pos} {t : TF} (h : PT X a (tEvT G XR W t)) : PW X (.BoolOp .Or [a] pos) (tEvT G XR W t) := pw_or1 h
theorem ew_and {a b : Expr} {rest : List Expr} {pos : Pos} {t u : TF} (ha : PT X a (tEvT G XR W t)) (hb : PW X (.BoolOp .And (b :: rest) pos) (tEvT G XR W u)) : PW X (.BoolOp .And (a :: b :: rest) pos) (tEvT G XR W (tAndF t u)) :=
  PW_imp (pw_and ha hb) fun σ H Q ⟨A, env, R, p⟩ => by
    refine (evT_seq R p).imp fun b H1 ⟨A1, e1, R1, F1, p1⟩ => ?_
    cases b with
    | true => exact ⟨A1, e1, R1, p1⟩
    | false => exact p1 A1 H1 R1 (Fr.refl _ _ _)
theorem ew_or {a b : Expr} {rest : List Expr} {pos : Pos} {t u : TF} (ha : PT X a (tEvT G XR W t)) (hb : PW X (.BoolOp .Or (b :: rest) pos) (tEvT G XR W u)) : PW X (.BoolOp .Or (a :: b :: rest) pos) (tEvT G XR W (tOrF t u)) :=
  PW_imp (pw_or ha hb) fun σ H Q ⟨A, env, R, p⟩ => by
    refine (evT_seq R p).imp fun b H1 ⟨A1, e1, R1, F1, p1⟩ => ?_
    cases b with
    | false => exact ⟨A1, e1, R1, p1⟩
    | true => exact p1 A1 H1 R1 (Fr.refl _ _ _)
theorem et_not {a : Expr} {pos : Pos} {t : TF} (h : PT X a (tEvT G XR W t)) : PT X (.UnaryOp .Not a pos) (tEvT G XR W (tNotF t)) := PT_imp (pt_not h) fun σ H Q ⟨A, env, R, p⟩ => by
  refine (evT_seq R p).imp fun b H1 ⟨A1, e1, R1, F1, p1⟩ => ?_
  exact p1 A1 H1 R1 (Fr.refl _ _ _)
/-- .. as values -/
def cAndV (f g : EF) : EF := fun env => bd (f env) fun o e => match peek e o with
  | some (.bl true) => g e
  | some (.bl false) => some (.ok (.dat (.bl false)) e)
  | _ => none
def cOrV (f g : EF) : EF := fun env => bd (f env) fun o e => match peek e o with
  | some (.bl true) => some (.ok (.dat (.bl true)) e)
  | some (.bl false) => g e
  | _ => none
def cNotV (f : EF) : EF := fun env => bd (f env) fun o e => match peek e o with
  | some (.bl b) => some (.ok (.dat (.bl (!b))) e)
  | _ => none
theorem ev_rebase {f : EF} {σ : St} {A A1 : Hid} {H H1 : Hp} {env e1 : Env} {Q : VK} (R1 : Rep G A1 σ H1 e1) (F1 : Fr (Own σ env) A H (Own σ e1) A1 H1) (p1 : Post G XR W σ A1 H1 e1 (fun o e A' H' => ∀ v, OutOk G H A' σ H' e o v → Q v H') (f e1)) :
    tEv G XR W f σ H1 Q := ⟨A1, e1, R1, Post.imp (Fr.refl _ _ _) (fun _ _ _ _ _ q v o => q v (o.base fun p h => F1.none h)) p1⟩
theorem bl_of {A : Hid} {H : Hp} {b : Bool} {x : V} (h : RepT G A H (.bl b) x) : x = .bl b := by
  rcases h with q | ⟨_, _, _, q⟩
  · unfold RepD at q
    exact q
  · exact q.elim
theorem ev_one {op} {a : Expr} {pos : Pos} {f : EF} (h : PE X a (tEv G XR W f)) : PE X (.BoolOp op [a] pos) (tEv G XR W f) := pe_one h
theorem ev_and {a b : Expr} {rest : List Expr} {pos : Pos} {f g : EF} (ha : PE X a (tEv G XR W f)) (hb : PE X (.BoolOp .And (b :: rest) pos) (tEv G XR W g)) : PE X (.BoolOp .And (a :: b :: rest) pos) (tEv G XR W (cAndV f g)) :=
  PE_imp (pe_and ha hb) fun σ H Q ⟨A, env, R, p⟩ => by
    refine (ev_seq R p).imp fun x H1 ⟨A1, e1, o1, R1, ok, F1, p1⟩ => ?_
    split at p1
    · rename_i hb
      exact ⟨true, bl_of (peek_ok R1 ok hb), ev_rebase R1 F1 p1⟩
    · rename_i hb
      exact ⟨false, bl_of (peek_ok R1 ok hb), p1 A1 H1 R1 (Fr.refl _ _ _) _ (by show RepD G A1 H1 _ _; unfold RepD; rfl)⟩
    · exact p1.elim
theorem ev_or {a b : Expr} {rest : List Expr} {pos : Pos} {f g : EF} (ha : PE X a (tEv G XR W f)) (hb : PE X (.BoolOp .Or (b :: rest) pos) (tEv G XR W g)) : PE X (.BoolOp .Or (a :: b :: rest) pos) (tEv G XR W (cOrV f g)) :=
  PE_imp (pe_or ha hb) fun σ H Q ⟨A, env, R, p⟩ => by
    refine (ev_seq R p).imp fun x H1 ⟨A1, e1, o1, R1, ok, F1, p1⟩ => ?_
    split at p1
    · rename_i hb
      exact ⟨true, bl_of (peek_ok R1 ok hb), p1 A1 H1 R1 (Fr.refl _ _ _) _ (by show RepD G A1 H1 _ _; unfold RepD; rfl)⟩
    · rename_i hb
      exact ⟨false, bl_of (peek_ok R1 ok hb), ev_rebase R1 F1 p1⟩
    · exact p1.elim
theorem ev_not {a : Expr} {pos : Pos} {f : EF} (ha : PE X a (tEv G XR W f)) : PE X (.UnaryOp .Not a pos) (tEv G XR W (cNotV f)) := PE_imp (pe_not ha) fun σ H Q ⟨A, env, R, p⟩ => by
  refine (ev_seq R p).imp fun x H1 ⟨A1, e1, o1, R1, ok, F1, p1⟩ => ?_
  split at p1
  · rename_i b hb
    exact ⟨b, bl_of (peek_ok R1 ok hb), p1 A1 H1 R1 (Fr.refl _ _ _) _ (by show RepD G A1 H1 _ _; unfold RepD; rfl)⟩
  · exact p1.elim
def cIfE (t : TF) (f g : EF) : EF := fun env => bd (t env) fun b e => if b = true then f e else g e
theorem ev_if {c a b : Expr} {pos : Pos} {t : TF} {f g : EF} (hc : PT X c (tEvT G XR W t)) (ha : PE X a (tEv G XR W f)) (hb : PE X b (tEv G XR W g)) : PE X (.IfExp c a b pos) (tEv G XR W (cIfE t f g)) := PE_imp (pe_ifExp hc ha hb) fun σ H Q ⟨A, env, R, p⟩ => by
  refine (evT_seq R p).imp fun b H1 ⟨A1, e1, R1, F1, p1⟩ => ?_
  cases b with
  | true => exact ev_rebase R1 F1 p1
  | false => exact ev_rebase R1 F1 p1
end
end Tk
/-! Tk3: statements, loops, comprehensions. -/
namespace Tk
open PySem L2

inductive Fl where
  | next
  | brk
  | cont
  | ret (o : Out)
abbrev SF := Env → Option (Rs Fl)
def Keep (fx : List Nat) (σ σ' : St) : Prop := ∀ i ∈ fx, σ'[i]? = σ[i]?
theorem Keep.refl (fx : List Nat) (σ : St) : Keep fx σ σ := fun _ _ => rfl
theorem Keep.trans {fx : List Nat} {σ σ1 σ2 : St} (a : Keep fx σ σ1) (b : Keep fx σ1 σ2) : Keep fx σ σ2 := fun i h => (b i h).trans (a i h)

def PostS (G : Tb) (XR : XW) (W : WX) (fx : List Nat) (D : Ends) (σ : St) (A : Hid) (H : Hp) (env : Env) : Option (Rs Fl) → Prop
  | none => False
  | some (.ok .next e) => ∀ σ' A' H', Rep G A' σ' H' e → Keep fx σ σ' → Fr (Own σ env) A H (Own σ' e) A' H' → D.nx σ' H'
  | some (.ok .brk e) => ∀ σ' A' H', Rep G A' σ' H' e → Keep fx σ σ' → Fr (Own σ env) A H (Own σ' e) A' H' → D.bk σ' H'
  | some (.ok .cont e) => ∀ σ' A' H', Rep G A' σ' H' e → Keep fx σ σ' → Fr (Own σ env) A H (Own σ' e) A' H' → D.ct σ' H'
  | some (.ok (.ret o) e) => ∀ σ' A' H' v, Rep G A' σ' H' e → Keep fx σ σ' → Fr (Own σ env) A H (Own σ' e) A' H' → OutOk G H A' σ' H' e o v → D.rt v H'
  | some (.ex x e) => ∀ σ' A' H' c d, Rep G A' σ' H' e → Keep fx σ σ' → Fr (Own σ env) A H (Own σ' e) A' H' → XR G x c d A' H' → W c d σ' H'
/-- wishes of a statement that grow -/
structure Ends.Le (D D' : Ends) : Prop where
  nx : ∀ σ H, D.nx σ H → D'.nx σ H
  bk : ∀ σ H, D.bk σ H → D'.bk σ H
  ct : ∀ σ H, D.ct σ H → D'.ct σ H
  rt : ∀ v H, D.rt v H → D'.rt v H
theorem Ends.Le.refl (D : Ends) : Ends.Le D D := ⟨fun _ _ h => h, fun _ _ h => h, fun _ _ h => h, fun _ _ h => h⟩

section
variable {G : Tb} {XR : XW} {W : WX} {X : Cx} {fx : List Nat}

theorem PostS.imp {D D' : Ends} {σ σ1 : St} {A A1 : Hid} {H H1 : Hp} {env env1 : Env} (l : Ends.Le D D') (k : Keep fx σ σ1) (f : Fr (Own σ env) A H (Own σ1 env1) A1 H1) : ∀ {r : Option (Rs Fl)}, PostS G XR W fx D σ A H env r → PostS G XR W fx D' σ1 A1 H1 env1 r
  | none, q => q
  | some (.ok .next e), q => fun σ' A' H' R K F => l.nx _ _ (q σ' A' H' R (k.trans K) (f.trans F))
  | some (.ok .brk e), q => fun σ' A' H' R K F => l.bk _ _ (q σ' A' H' R (k.trans K) (f.trans F))
  | some (.ok .cont e), q => fun σ' A' H' R K F => l.ct _ _ (q σ' A' H' R (k.trans K) (f.trans F))
  | some (.ok (.ret o) e), q => fun σ' A' H' v R K F ok => l.rt _ _ (q σ' A' H' v R (k.trans K) (f.trans F) (ok.base fun p h => f.none h))
  | some (.ex x e), q => fun σ' A' H' c d R K F xr => q σ' A' H' c d R (k.trans K) (f.trans F) xr
theorem PostS.now {D : Ends} {σ : St} {A : Hid} {H : Hp} {env : Env} (R : Rep G A σ H env) (p : PostS G XR W fx D σ A H env (some (.ok .next env))) : D.nx σ H := p σ A H R (Keep.refl _ _) (Fr.refl _ _ _)

variable (G XR W fx) in
def tEx (g : SF) : TS := fun D σ H => ∃ A env, Rep G A σ H env ∧ PostS G XR W fx D σ A H env (g env)

/-- an expression first -/
theorem exE_seq {f : EF} {k : Out → Env → Option (Rs Fl)} {D : Ends} {σ : St} {A : Hid} {H : Hp} {env : Env} (R : Rep G A σ H env) (p : PostS G XR W fx D σ A H env (bd (f env) k)) :
    tEv G XR W f σ H (fun x H1 => ∃ A1 env1 o1, Rep G A1 σ H1 env1 ∧ OutOk G H A1 σ H1 env1 o1 x ∧ Fr (Own σ env) A H (Own σ env1) A1 H1 ∧ PostS G XR W fx D σ A1 H1 env1 (k o1 env1)) := by
  refine ⟨A, env, R, ?_⟩
  cases hf : f env with
  | none =>
    rw [hf] at p
    exact p
  | some r =>
    rw [hf] at p
    cases r with
    | ok o e1 => exact fun A1 H1 R1 F1 v ov => ⟨A1, e1, o, R1, ov, F1, PostS.imp (Ends.Le.refl _) (Keep.refl _ _) F1 p⟩
    | ex x e1 => exact fun A1 H1 c d R1 F1 xr => p σ A1 H1 c d R1 (Keep.refl _ _) F1 xr
theorem exU_seq {f : UF} {k : D → Env → Option (Rs Fl)} {D : Ends} {σ : St} {A : Hid} {H : Hp} {env : Env} (R : Rep G A σ H env) (p : PostS G XR W fx D σ A H env (bd (f env) k)) :
    tEvU G XR W f σ H (fun x H1 => ∃ A1 env1 d1, Rep G A1 σ H1 env1 ∧ RepD G A1 H1 d1 x ∧ Fr (Own σ env) A H (Own σ env1) A1 H1 ∧ PostS G XR W fx D σ A1 H1 env1 (k d1 env1)) := by
  refine ⟨A, env, R, ?_⟩
  cases hf : f env with
  | none =>
    rw [hf] at p
    exact p
  | some r =>
    rw [hf] at p
    cases r with
    | ok o e1 => exact fun A1 H1 R1 F1 v ov => ⟨A1, e1, o, R1, ov, F1, PostS.imp (Ends.Le.refl _) (Keep.refl _ _) F1 p⟩
    | ex x e1 => exact fun A1 H1 c d R1 F1 xr => p σ A1 H1 c d R1 (Keep.refl _ _) F1 xr
theorem exT_seq {f : TF} {k : Bool → Env → Option (Rs Fl)} {D : Ends} {σ : St} {A : Hid} {H : Hp} {env : Env} (R : Rep G A σ H env) (p : PostS G XR W fx D σ A H env (bd (f env) k)) :
    tEvT G XR W f σ H (fun b H1 => ∃ A1 env1, Rep G A1 σ H1 env1 ∧ Fr (Own σ env) A H (Own σ env1) A1 H1 ∧ PostS G XR W fx D σ A1 H1 env1 (k b env1)) := by
  refine ⟨A, env, R, ?_⟩
  cases hf : f env with
  | none =>
    rw [hf] at p
    exact p
  | some r =>
    rw [hf] at p
    cases r with
    | ok o e1 => exact fun A1 H1 R1 F1 => ⟨A1, e1, R1, F1, PostS.imp (Ends.Le.refl _) (Keep.refl _ _) F1 p⟩
    | ex x e1 => exact fun A1 H1 c d R1 F1 xr => p σ A1 H1 c d R1 (Keep.refl _ _) F1 xr

/-! ### blocks -/
def sNil : SF := fun env => some (.ok .next env)
def seqK (g2 : SF) (fl : Fl) (e : Env) : Option (Rs Fl) := match fl with
  | .next => g2 e
  | .brk => some (.ok .brk e)
  | .cont => some (.ok .cont e)
  | .ret o => some (.ok (.ret o) e)
def sSeq (g1 g2 : SF) : SF := fun env => bd (g1 env) (seqK g2)
theorem es_nil : PSs X [] (tEx G XR W fx sNil) := PSs_imp pss_nil fun D σ H ⟨A, env, R, p⟩ => p.now R
/-- from a longer run to its first part -/
theorem post_seq {g : SF} {k : Fl → Env → Option (Rs Fl)} {D D' : Ends} {σ : St} {A : Hid} {H : Hp} {env : Env} (hb : ∀ e, k .brk e = some (.ok .brk e) ∧ ∀ σ' H', D.bk σ' H' → D'.bk σ' H') (hc : ∀ e, k .cont e = some (.ok .cont e) ∧ ∀ σ' H', D.ct σ' H' → D'.ct σ' H')
    (hr : ∀ o e, k (.ret o) e = some (.ok (.ret o) e) ∧ ∀ v H', D.rt v H' → D'.rt v H')
    (hn : ∀ σ' A' H' e, Rep G A' σ' H' e → Keep fx σ σ' → Fr (Own σ env) A H (Own σ' e) A' H' → PostS G XR W fx D σ' A' H' e (k .next e) → D'.nx σ' H') (p : PostS G XR W fx D σ A H env (bd (g env) k)) : PostS G XR W fx D' σ A H env (g env) := by
  cases hg : g env with
  | none =>
    rw [hg] at p
    exact p
  | some r =>
    rw [hg] at p
    cases r with
    | ex x e => exact p
    | ok fl e =>
      rw [bd_ok] at p
      cases fl with
      | next => exact fun σ' A' H' R K F => hn σ' A' H' e R K F (PostS.imp (Ends.Le.refl _) K F p)
      | brk =>
        rw [(hb e).1] at p
        exact fun σ' A' H' R K F => (hb e).2 _ _ (p σ' A' H' R K F)
      | cont =>
        rw [(hc e).1] at p
        exact fun σ' A' H' R K F => (hc e).2 _ _ (p σ' A' H' R K F)
      | ret o =>
        rw [(hr o e).1] at p
        exact fun σ' A' H' v R K F ok => (hr o e).2 _ _ (p σ' A' H' v R K F ok)
theorem es_cons {st : Stmt} {rest : List Stmt} {g1 g2 : SF} (h1 : PS X st (tEx G XR W fx g1)) (h2 : PSs X rest (tEx G XR W fx g2)) : PSs X (st :: rest) (tEx G XR W fx (sSeq g1 g2)) := PSs_imp (pss_cons h1 h2) fun D σ H ⟨A, env, R, p⟩ => by
  refine ⟨A, env, R, post_seq (D := D) (k := seqK g2) (fun e => ⟨rfl, fun _ _ h => h⟩) (fun e => ⟨rfl, fun _ _ h => h⟩) (fun o e => ⟨rfl, fun _ _ h => h⟩) (fun σ' A' H' e R' K F q => ?_) p⟩
  exact ⟨A', e, R', q⟩
theorem es_one {st : Stmt} {g1 : SF} (h1 : PS X st (tEx G XR W fx g1)) : PSs X [st] (tEx G XR W fx g1) := pss_one h1

/-! ### small statements -/
def sExpr (f : EF) : SF := fun env => bd (f env) fun _ e => some (.ok .next e)
theorem es_expr {e : Expr} {pos : Pos} {f : EF} (h : PE X e (tEv G XR W f)) (hs : swapsWith e none pos.line X.env = pure false := by rfl) : PS X (.Expr e pos) (tEx G XR W fx (sExpr f)) := PS_imp (ps_expr h hs) fun D σ H ⟨A, env, R, p⟩ => by
  refine (exE_seq R p).imp fun x H1 ⟨A1, e1, o1, R1, ok, F1, p1⟩ => ?_
  exact p1.now R1
def sRet (f : EF) : SF := fun env => bd (f env) fun o e => some (.ok (.ret o) e)
theorem es_ret {e : Expr} {pos : Pos} {f : EF} (h : PE X e (tEv G XR W f)) : PS X (.Return (some e) pos) (tEx G XR W fx (sRet f)) := PS_imp (ps_ret h) fun D σ H ⟨A, env, R, p⟩ => by
  refine ⟨A, env, R, ?_⟩
  unfold sRet at p
  cases hf : f env with
  | none =>
    rw [hf] at p
    exact p
  | some r =>
    rw [hf] at p
    cases r with
    | ok o e1 => exact fun A1 H1 R1 F1 v ov => p σ A1 H1 v R1 (Keep.refl _ _) F1 ov
    | ex x e1 => exact fun A1 H1 c d R1 F1 xr => p σ A1 H1 c d R1 (Keep.refl _ _) F1 xr
def sRetN : SF := fun env => some (.ok (.ret (.dat .non)) env)
def sBrk : SF := fun env => some (.ok .brk env)
def sCont : SF := fun env => some (.ok .cont env)
def sIf (t : TF) (g1 g2 : SF) : SF := fun env => bd (t env) fun b e => if b = true then g1 e else g2 e
theorem es_if {c : Expr} {a b : List Stmt} {pos : Pos} {t : TF} {g1 g2 : SF} (hc : PT X c (tEvT G XR W t)) (ha : PSs X a (tEx G XR W fx g1)) (hb : PSs X b (tEx G XR W fx g2)) : PS X (.If c a b pos) (tEx G XR W fx (sIf t g1 g2)) := PS_imp (ps_if hc ha hb) fun D σ H ⟨A, env, R, p⟩ => by
  refine (exT_seq R p).imp fun b H1 ⟨A1, e1, R1, F1, p1⟩ => ?_
  cases b with
  | true => exact ⟨A1, e1, R1, p1⟩
  | false => exact ⟨A1, e1, R1, p1⟩

/-! ### stores -/
theorem Rep.setDat {σ : St} {A : Hid} {H : Hp} {env : Env} (R : Rep G A σ H env) {i : Nat} {d : D} {v : V} (hi : i < env.length) (h : RepD G A H d v) : Rep G A (σ.set i (some v)) H (env.set i (some (.dat d))) ∧ ∀ q, Own (σ.set i (some v)) (env.set i (some (.dat d))) q → Own σ env q := by
  have hs : i < σ.length := by
    rw [← R.len]
    exact hi
  have back : ∀ (j : Nat) (c : D), (env.set i (some (.dat d)))[j]? = some (some (Cell.own c)) → i ≠ j ∧ env[j]? = some (some (Cell.own c)) := fun j c k => by
    by_cases hj : i = j
    · subst hj
      rw [List.getElem?_set_self hi] at k
      cases k
    · rw [List.getElem?_set_ne hj] at k
      exact ⟨hj, k⟩
  refine ⟨⟨by rw [List.length_set, List.length_set]; exact R.len, R.tup, fun j c k => ?_, fun j1 j2 d1 d2 w k1 k2 k3 k4 => ?_⟩, fun q ⟨j, c, k1, k2⟩ => ?_⟩
  · by_cases hj : i = j
    · subst hj
      rw [List.getElem?_set_self hi] at k
      cases k
      exact ⟨v, List.getElem?_set_self hs, h⟩
    · rw [List.getElem?_set_ne hj] at k ⊢
      exact R.cell j c k
  · obtain ⟨n1, m1⟩ := back _ _ k1
    obtain ⟨n2, m2⟩ := back _ _ k2
    rw [List.getElem?_set_ne n1] at k3
    rw [List.getElem?_set_ne n2] at k4
    exact R.inj j1 j2 d1 d2 w m1 m2 k3 k4
  · obtain ⟨n1, m1⟩ := back _ _ k1
    rw [List.getElem?_set_ne n1] at k2
    exact ⟨j, c, m1, k2⟩
theorem Rep.setOwn {σ : St} {A : Hid} {H : Hp} {env : Env} (R : Rep G A σ H env) {i : Nat} {d : D} {p : Addr} (hi : i < env.length) (a : A p) (n : ¬ Own σ env p) (t : RepTop G A H d p) :
    Rep G A (σ.set i (some (.ref p))) H (env.set i (some (.own d))) ∧ ∀ q, Own (σ.set i (some (.ref p))) (env.set i (some (.own d))) q → Own σ env q ∨ q = p := by
  have hs : i < σ.length := by
    rw [← R.len]
    exact hi
  refine ⟨⟨by rw [List.length_set, List.length_set]; exact R.len, R.tup, fun j c k => ?_, fun j1 j2 d1 d2 w k1 k2 k3 k4 => ?_⟩, fun q ⟨j, c, k1, k2⟩ => ?_⟩
  · by_cases hj : i = j
    · subst hj
      rw [List.getElem?_set_self hi] at k
      cases k
      exact ⟨.ref p, List.getElem?_set_self hs, p, rfl, a, t⟩
    · rw [List.getElem?_set_ne hj] at k ⊢
      exact R.cell j c k
  · by_cases h1 : i = j1
    · subst h1
      rw [List.getElem?_set_self hs] at k3
      cases k3
      by_cases h2 : i = j2
      · exact h2
      · rw [List.getElem?_set_ne h2] at k2 k4
        exact absurd ⟨j2, d2, k2, k4⟩ n
    · rw [List.getElem?_set_ne h1] at k1 k3
      by_cases h2 : i = j2
      · subst h2
        rw [List.getElem?_set_self hs] at k4
        cases k4
        exact absurd ⟨j1, d1, k1, k3⟩ n
      · rw [List.getElem?_set_ne h2] at k2 k4
        exact R.inj j1 j2 d1 d2 w k1 k2 k3 k4
  · by_cases hj : i = j
    · subst hj
      rw [List.getElem?_set_self hs] at k2
      cases k2
      exact .inr rfl
    · rw [List.getElem?_set_ne hj] at k1 k2
      exact .inl ⟨j, c, k1, k2⟩
theorem Fr.less {O A O1 O2 A1 : Hid} {H H1 : Hp} (f : Fr O A H O1 A1 H1) (h : ∀ q, O2 q → O1 q ∨ H q = Option.none) : Fr O A H O2 A1 H1 := ⟨f.keep, fun p hp => by
  rcases h p hp with z | z
  · exact f.own p z
  · exact .inr z, f.dom⟩
theorem keep_set {σ : St} {i : Nat} {v : Option V} (h : i ∉ fx) : Keep fx σ (σ.set i v) := fun j hj => by
  rw [List.getElem?_set_ne]
  rintro rfl
  exact h hj

/-- name = value -/
def setK (fx : List Nat) (i : Nat) (o : Out) (e : Env) : Option (Rs Fl) :=
  if i ∈ fx ∨ e.length ≤ i then none else match o with
    | .dat d => some (.ok .next (e.set i (some (.dat d))))
    | .fresh d => some (.ok .next (e.set i (some (.own d))))
    | .slot j => match use e (.slot j) with
      | some (.ok d e2) => some (.ok .next (e2.set i (some (.dat d))))
      | _ => none
def sSet (fx : List Nat) (i : Nat) (f : EF) : SF := fun env => bd (f env) (setK fx i)
theorem use_len {e e2 : Env} {o : Out} {d : D} (h : use e o = some (.ok d e2)) : e2.length = e.length := by
  cases o with
  | dat _ => cases h; rfl
  | fresh _ => cases h; rfl
  | slot i =>
    unfold use at h
    simp only at h
    split at h
    · cases h; rfl
    · cases h
      rw [List.length_set]
    · cases h
theorem set_out {i : Nat} {D : Ends} {σ : St} {A0 A : Hid} {H0 H : Hp} {env0 e : Env} {o : Out} {x : V} (R : Rep G A σ H e) (F0 : Fr (Own σ env0) A0 H0 (Own σ e) A H) (ok : OutOk G H0 A σ H e o x) (p : PostS G XR W fx D σ A0 H0 env0 (setK fx i o e)) : D.nx (σ.set i (some x)) H := by
  unfold setK at p
  split at p
  · exact p.elim
  · rename_i hi
    have h1 : i ∉ fx := fun z => hi (.inl z)
    have h2 : i < e.length := Nat.lt_of_not_le fun z => hi (.inr z)
    cases o with
    | dat d =>
      obtain ⟨R', ow⟩ := R.setDat h2 ok
      exact p _ A H R' (keep_set h1) (F0.less fun q z => .inl (ow q z))
    | fresh d =>
      obtain ⟨q, e1, e2, a, n, t⟩ := ok
      subst e1
      obtain ⟨R', ow⟩ := R.setOwn h2 a n t
      refine p _ A H R' (keep_set h1) (F0.less fun r z => ?_)
      rcases ow r z with w | w
      · exact .inl w
      · rw [w]
        exact .inr e2
    | slot j =>
      simp only at p
      split at p
      · rename_i d e2 hu
        obtain ⟨A2, R2, F2, r2, _⟩ := use_ok R F0 ok hu
        have h3 : i < e2.length := by
          rw [use_len hu]
          exact h2
        obtain ⟨R', ow⟩ := R2.setDat h3 r2
        exact p _ A2 H R' (keep_set h1) (F2.less fun q z => .inl (ow q z))
      · exact p.elim
theorem es_set {i : Nat} {x : Str} {e : Expr} {f : EF} {pos pos' : Pos} (hN : X.N.Nodup) (hi : X.N[i]? = some x) (hx : Loc X.env.scope x) (he : PE X e (tEv G XR W f)) (hs : swapsWith e (some (.Name x pos')) pos.line X.env = pure false := by rfl)
    (hf : X.fn x = true ∨ X.env.scope.names.lookup x = some .local := by first | exact .inl rfl | exact .inr rfl | assumption) : PS X (.Assign [.Name x pos'] e pos) (tEx G XR W fx (sSet fx i f)) := PS_imp (ps_set hN hi hx he hs hf) fun D σ H ⟨A, env, R, p⟩ => by
  unfold sSet at p
  refine ⟨A, env, R, ?_⟩
  cases hf : f env with
  | none =>
    rw [hf] at p
    exact p
  | some r =>
    rw [hf] at p
    cases r with
    | ok o e1 => exact fun A1 H1 R1 F1 v ov => set_out R1 F1 ov p
    | ex x e1 => exact fun A1 H1 c d R1 F1 xr => p σ A1 H1 c d R1 (Keep.refl _ _) F1 xr

/-! ### targets -/
abbrev GF := D → Env → Option (Rs Unit)
abbrev GFs := List D → Env → Option (Rs Unit)
def PostG (G : Tb) (XR : XW) (W : WX) (fx : List Nat) (Q : St → Hp → Prop) (σ : St) (A : Hid) (H : Hp) (env : Env) : Option (Rs Unit) → Prop
  | none => False
  | some (.ok _ e) => ∀ σ' A' H', Rep G A' σ' H' e → Keep fx σ σ' → Fr (Own σ env) A H (Own σ' e) A' H' → Q σ' H'
  | some (.ex x e) => ∀ σ' A' H' c d, Rep G A' σ' H' e → Keep fx σ σ' → Fr (Own σ env) A H (Own σ' e) A' H' → XR G x c d A' H' → W c d σ' H'
theorem PostG.imp {Q Q' : St → Hp → Prop} {σ σ1 : St} {A A1 : Hid} {H H1 : Hp} {env env1 : Env} (l : ∀ σ H, Q σ H → Q' σ H) (k : Keep fx σ σ1) (f : Fr (Own σ env) A H (Own σ1 env1) A1 H1) : ∀ {r : Option (Rs Unit)}, PostG G XR W fx Q σ A H env r → PostG G XR W fx Q' σ1 A1 H1 env1 r
  | none, q => q
  | some (.ok _ e), q => fun σ' A' H' R K F => l _ _ (q σ' A' H' R (k.trans K) (f.trans F))
  | some (.ex x e), q => fun σ' A' H' c d R K F xr => q σ' A' H' c d R (k.trans K) (f.trans F) xr
variable (G XR W fx) in
def tEvG (g : GF) : TG := fun v σ H Q => ∃ A env d, Rep G A σ H env ∧ RepD G A H d v ∧ PostG G XR W fx Q σ A H env (g d env)
variable (G XR W fx) in
def tEvGs (g : GFs) : TGs := fun vs σ H Q => ∃ A env ds, Rep G A σ H env ∧ RepDs G A H ds vs ∧ PostG G XR W fx Q σ A H env (g ds env)
theorem PG_imp {X : Cx} {e : Expr} {t t' : TG} (h : PG X e t) (i : ∀ v σ H Q, t' v σ H Q → t v σ H Q) : PG X e t' := ⟨fun pins s σ H v u Q I r q => h.run pins s σ H v u Q I r (i v σ H Q q)⟩
theorem PGs_imp {X : Cx} {e : List Expr} {t t' : TGs} (h : PGs X e t) (i : ∀ v σ H Q, t' v σ H Q → t v σ H Q) : PGs X e t' := ⟨fun pins s σ H v u Q I r q => h.run pins s σ H v u Q I r (i v σ H Q q)⟩
def gNm (fx : List Nat) (i : Nat) : GF := fun d env => if i ∈ fx ∨ env.length ≤ i then none else some (.ok () (env.set i (some (.dat d))))
theorem eg_name {i : Nat} {x : Str} {pos : Pos} (h : PG X (.Name x pos) (gName i)) : PG X (.Name x pos) (tEvG G XR W fx (gNm fx i)) := PG_imp h fun v σ H Q ⟨A, env, d, R, r, p⟩ => by
  unfold gNm at p
  split at p
  · exact p.elim
  · rename_i hi
    have h1 : i ∉ fx := fun z => hi (.inl z)
    have h2 : i < env.length := Nat.lt_of_not_le fun z => hi (.inr z)
    obtain ⟨R', ow⟩ := R.setDat h2 r
    exact p _ A H R' (keep_set h1) ((Fr.refl _ _ _).less fun q z => .inl (ow q z))
def gsNil : GFs := fun ds env => match ds with
  | [] => some (.ok () env)
  | _ => none
def gsCons (g : GF) (gs : GFs) : GFs := fun ds env => match ds with
  | d :: r => bd (g d env) fun _ e => gs r e
  | [] => none
theorem egs_nil : PGs X [] (tEvGs G XR W fx gsNil) := PGs_imp pgs_nil fun vs σ H Q ⟨A, env, ds, R, r, p⟩ => by
  cases ds with
  | nil => exact ⟨r.inv0, p σ A H R (Keep.refl _ _) (Fr.refl _ _ _)⟩
  | cons d ds => exact p.elim
theorem egs_cons {e : Expr} {es : List Expr} {g : GF} {gs : GFs} (h1 : PG X e (tEvG G XR W fx g)) (h2 : PGs X es (tEvGs G XR W fx gs)) (hs : (assignEach (e :: es) X.env).map (·.2) = assign e X.env :: (assignEach es X.env).map (·.2) := by rfl) :
    PGs X (e :: es) (tEvGs G XR W fx (gsCons g gs)) := PGs_imp (pgs_cons h1 h2 hs) fun vs σ H Q ⟨A, env, ds, R, r, p⟩ => by
  cases ds with
  | nil => exact p.elim
  | cons d ds =>
    obtain ⟨v, vr, rfl, r1, r2⟩ := r.inv
    refine ⟨v, vr, rfl, A, env, d, R, r1, ?_⟩
    unfold gsCons at p
    simp only at p
    cases hg : g d env with
    | none =>
      rw [hg] at p
      exact p
    | some q =>
      rw [hg] at p
      cases q with
      | ok u e1 => exact fun σ' A' H' R' K F => ⟨A', e1, ds, R', RepDs.mono (F.stab fun p q => R.own_hid q) R.tup _ _ r2, PostG.imp (fun _ _ h => h) K F p⟩
      | ex x e1 => exact p
def gTp (n : Nat) (gs : GFs) : GF := fun d env => match d with
  | .tup ds => if ds.length = n then gs ds env else none
  | _ => none
theorem eg_tup {es : List Expr} {k : Nat} {pos : Pos} {gs : GFs} {n : Nat} (hc : X.calm = true) (hk : X.K = G.K) (h : PGs X es (tEvGs G XR W fx gs)) (hn : (assignEach es X.env).length = n := by rfl) (hst : (assignEach es X.env).findIdx? (·.1) = none := by rfl) :
    PG X (.Tuple es k pos) (tEvG G XR W fx (gTp n gs)) := PG_imp (pg_tup hc h hn hst) fun v σ H Q ⟨A, env, d, R, r, p⟩ => by
  cases d with
  | tup ds =>
    unfold RepD at r
    obtain ⟨a, vs, e, q, r⟩ := r
    unfold gTp at p
    simp only at p
    split at p
    · rename_i hl
      rw [← hk] at q
      exact ⟨a, vs, e, q.t, by rw [← r.length]; exact hl, A, env, ds, R, r, p⟩
    · exact p.elim
  | _ => exact p.elim
/-- target = value -/
def sAsg (f : EF) (g : GF) : SF := fun env => bd (cUse f env) fun d e => bd (g d e) fun _ e2 => some (.ok .next e2)
theorem asg_post {D : Ends} {σ : St} {A : Hid} {H : Hp} {env : Env} {r : Option (Rs Unit)} (p : PostS G XR W fx D σ A H env (bd r fun _ e2 => some (.ok .next e2))) : PostG G XR W fx D.nx σ A H env r := by
  cases r with
  | none => exact p
  | some q =>
    cases q with
    | ok u e => exact p
    | ex x e => exact p
theorem es_asg {tg e : Expr} {pos : Pos} {f : EF} {g : GF} (he : PE X e (tEv G XR W f)) (hg : PG X tg (tEvG G XR W fx g)) (hs : swapsWithSole [tg] e pos.line X.env = pure false := by rfl) (hw : swappedStores [tg] e X.env = pure none := by rfl)
    (h1 : (assignEach [tg] X.env).map (·.2) = [assign tg X.env] := by rfl) : PS X (.Assign [tg] e pos) (tEx G XR W fx (sAsg f g)) := PS_imp (ps_asg (ev_use he) hg hs hw h1) fun D σ H ⟨A, env, R, p⟩ => by
  refine (exU_seq R p).imp fun x H1 ⟨A1, e1, d1, R1, r1, F1, p1⟩ => ?_
  exact ⟨A1, e1, d1, R1, r1, asg_post p1⟩

/-! ### while -/
def forK (k : Env → Option (Rs Fl)) (fl : Fl) (e2 : Env) : Option (Rs Fl) := match fl with
    | .next => k e2
    | .cont => k e2
    | .brk => some (.ok .next e2)
    | .ret o => some (.ok (.ret o) e2)
def whileG (t : TF) (g : SF) : Nat → SF
  | 0 => fun _ => none
  | n + 1 => fun env => bd (t env) fun b e => if b = true then bd (g e) (forK (whileG t g n)) else some (.ok .next e)
theorem loop_post {g : SF} {k : Env → Option (Rs Fl)} {D : Ends} {N : St → Hp → Prop} {σ : St} {A : Hid} {H : Hp} {env : Env} (hN : ∀ σ' A' H' e, Rep G A' σ' H' e → Keep fx σ σ' → Fr (Own σ env) A H (Own σ' e) A' H' → PostS G XR W fx D σ' A' H' e (k e) → N σ' H')
    (p : PostS G XR W fx D σ A H env (bd (g env) (forK k))) : PostS G XR W fx { D with nx := N, ct := N, bk := D.nx } σ A H env (g env) := by
  cases hg : g env with
  | none =>
    rw [hg] at p
    exact p
  | some r =>
    rw [hg] at p
    cases r with
    | ex x e => exact p
    | ok fl e =>
      rw [bd_ok] at p
      cases fl with
      | next => exact fun σ' A' H' R K F => hN σ' A' H' e R K F (PostS.imp (Ends.Le.refl _) K F p)
      | brk => exact p
      | cont => exact fun σ' A' H' R K F => hN σ' A' H' e R K F (PostS.imp (Ends.Le.refl _) K F p)
      | ret o => exact p
theorem es_while {c : Expr} {body : List Stmt} {pos : Pos} {t : TF} {g : SF} (n : Nat) (hp : PassesOwn (model X.prog X.w) X.A X.env X.xe) (hc : PT X c (tEvT G XR W t)) (hb : PSs X body (tEx G XR W fx g)) : PS X (.While c body [] pos) (tEx G XR W fx (whileG t g n)) :=
  PS_imp (ps_while hp hc hb) fun D σ H ⟨A, env, R, p⟩ => by
    refine ⟨fun m σ H => ∃ A env, Rep G A σ H env ∧ PostS G XR W fx D σ A H env (whileG t g m env), ⟨n, A, env, R, p⟩, ?_⟩
    rintro m σ1 H1 ⟨A1, e1, R1, p1⟩
    cases m with
    | zero => exact p1.elim
    | succ m =>
      refine (exT_seq R1 p1).imp fun b H2 ⟨A2, e2, R2, F2, p2⟩ => ?_
      cases b with
      | true =>
        refine ⟨fun σ' H' => ∃ A' e', Rep G A' σ' H' e' ∧ PostS G XR W fx D σ' A' H' e' (whileG t g m e'), fun σ' H' ⟨A', e', R', p'⟩ => ⟨m, Nat.lt_succ_self m, A', e', R', p'⟩, ?_⟩
        exact ⟨A2, e2, R2, loop_post (k := whileG t g m) (fun σ' A' H' e R' K F q => ⟨A', e, R', q⟩) p2⟩
      | false => exact p2.now R2

/-! ### what is walked -/
def ItOk (G : Tb) (J : It) (A : Hid) (H : Hp) (ds : List D) : Prop := ∀ A2 H2, TupOk A2 H2 → Stab A H A2 H2 → (∀ (i : Nat) d, ds[i]? = some d → J.go i H2 ∧ ∀ x H3, J.yld i H2 x H3 → Ext A2 H2 A2 H3 ∧ RepD G A2 H3 d x) ∧ J.stop ds.length H2
variable (G XR W) in
def tEvI (f : AF) : TI := fun σ H R => ∃ A env, Rep G A σ H env ∧ Post G XR W σ A H env (fun ds _ A' H' => ∀ J, ItOk G J A' H' ds → R J H') (f env)
theorem PI_imp {X : Cx} {tg e : Expr} {t t' : TI} (h : PI X tg e t) (i : ∀ σ H Q, t' σ H Q → t σ H Q) : PI X tg e t' := ⟨fun pins s σ H Q I q => h.run pins s σ H Q I (i σ H Q q)⟩
theorem PI_or {X : Cx} {tg e : Expr} {t u : TI} (h : PI X tg e t) (k : PI X tg e u) : PI X tg e (fun σ H R => t σ H R ∨ u σ H R) := ⟨fun pins s σ H Q I q => by
  rcases q with q | q
  · exact h.run pins s σ H Q I q
  · exact k.run pins s σ H Q I q⟩

theorem it_list {A : Hid} {H : Hp} {a : Addr} {vs : List V} {ds : List D} (t : TupOk A H) (h : SeenL G A H a vs) (r : RepDs G A H ds vs) : ItOk G (Itl G.K a) A H ds := fun A2 H2 t2 s => by
  have h2 : SeenL G A2 H2 a vs := ⟨(s a _ h.2 h.1).2, (s a _ h.2 h.1).1⟩
  have r2 := RepDs.mono s t _ _ r
  refine ⟨fun i d e => ?_, vs, h2.sq, ?_⟩
  · obtain ⟨v, e1, k⟩ := r2.get e
    refine ⟨⟨vs, v, h2.sq, e1⟩, fun x H3 y => ?_⟩
    obtain ⟨e2, y⟩ := y
    have e3 := y vs h2.sq
    rw [e1] at e3
    cases e3
    subst e2
    exact ⟨Ext.refl t2, k⟩
  · rw [r.length]
    exact Nat.le_refl _
theorem it_tup {A : Hid} {H : Hp} {a : Addr} {vs : List V} {ds : List D} (t : TupOk A H) (h : SqT G.K H a vs) (r : RepDs G A H ds vs) : ItOk G (Itt G.K a) A H ds := fun A2 H2 t2 s => by
  have h2 := s.sqT t h
  have r2 := RepDs.mono s t _ _ r
  refine ⟨fun i d e => ?_, vs, h2, ?_⟩
  · obtain ⟨v, e1, k⟩ := r2.get e
    refine ⟨⟨vs, v, h2, e1⟩, fun x H3 y => ?_⟩
    obtain ⟨e2, y⟩ := y
    have e3 := y vs h2
    rw [e1] at e3
    cases e3
    subst e2
    exact ⟨Ext.refl t2, k⟩
  · rw [r.length]
    exact Nat.le_refl _
def signs (x : Str) : List D := x.cps.toList.map fun c => .str ⟨#[c]⟩
theorem it_str {A : Hid} {H : Hp} {x : Str} : ItOk G (Its x) A H (signs x) := fun A2 H2 t2 s => by
  refine ⟨fun i d e => ?_, ?_⟩
  · unfold signs at e
    rw [List.getElem?_map] at e
    cases hc : x.cps.toList[i]? with
    | none =>
      rw [hc] at e
      cases e
    | some c =>
      rw [hc] at e
      cases e
      have hl := (List.getElem?_eq_some_iff.mp hc).1
      refine ⟨by show i < x.cps.size; simpa using hl, fun v H3 y => ?_⟩
      obtain ⟨e2, c', e3, e4⟩ := y
      subst e2
      rw [← Array.getElem?_toList, hc] at e3
      cases e3
      refine ⟨Ext.refl t2, ?_⟩
      unfold RepD
      exact e4
  · show x.cps.size ≤ (signs x).length
    unfold signs
    simp
/-- a list, a tuple, a text -/
def iter1 : D → Option (List D)
  | .lst ds => some ds
  | .tup ds => some ds
  | .str x => some (signs x)
  | _ => none
def iIt (f : EF) : AF := fun env => bd (cUse f env) fun d e => match iter1 d with
  | some ds => some (.ok ds e)
  | none => none
theorem ei_seq {tg e : Expr} {f : EF} (hk : X.K = G.K) (h : PE X e (tEv G XR W f)) : PI X tg e (tEvI G XR W (iIt f)) :=
  PI_imp (PI_or (pi_list (ev_use h)) (PI_or (pi_tup (ev_use h)) (pi_str (ev_use h)))) fun σ H Rr ⟨A, env, R, p⟩ => by
    unfold iIt at p
    cases hf : cUse f env with
    | none =>
      rw [hf] at p
      exact p.elim
    | some r =>
      rw [hf] at p
      cases r with
      | ex x e1 => exact .inl ⟨A, env, R, by rw [hf]; exact p⟩
      | ok d e1 =>
        rw [bd_ok] at p
        cases d with
        | lst ds =>
          refine .inl ⟨A, env, R, ?_⟩
          rw [hf]
          intro A1 H1 R1 F1 v k
          unfold RepD at k
          obtain ⟨a, vs, ev, q, rr⟩ := k
          refine ⟨a, ev, ⟨vs, by rw [hk]; exact q.sq⟩, ?_⟩
          rw [hk]
          exact p A1 H1 R1 F1 _ (it_list R1.tup q rr)
        | tup ds =>
          refine .inr (.inl ⟨A, env, R, ?_⟩)
          rw [hf]
          intro A1 H1 R1 F1 v k
          unfold RepD at k
          obtain ⟨a, vs, ev, q, rr⟩ := k
          refine ⟨a, ev, ⟨vs, by rw [hk]; exact q.t⟩, ?_⟩
          rw [hk]
          exact p A1 H1 R1 F1 _ (it_tup R1.tup q.t rr)
        | str x =>
          refine .inr (.inr ⟨A, env, R, ?_⟩)
          rw [hf]
          intro A1 H1 R1 F1 v k
          unfold RepD at k
          exact ⟨x, k, p A1 H1 R1 F1 _ it_str⟩
        | non => exact p.elim
        | bl _ => exact p.elim
        | int _ => exact p.elim
        | dct _ _ => exact p.elim
        | obj _ _ => exact p.elim
        | fn _ => exact p.elim
        | scr _ => exact p.elim
def intsFrom (lo : Int) (n : Nat) : List D := (List.range n).map fun (i : Nat) => D.int (lo + (i : Int))
theorem it_range {A : Hid} {H : Hp} {lo : Int} {n : Nat} : ItOk G (Itr lo n) A H (intsFrom lo n) := fun A2 H2 t2 s => by
  refine ⟨fun i d e => ?_, ?_⟩
  · unfold intsFrom at e
    rw [List.getElem?_map] at e
    by_cases hi : i < n
    · rw [List.getElem?_range hi] at e
      cases e
      refine ⟨hi, fun v H3 y => ?_⟩
      obtain ⟨e2, e4⟩ := y
      subst e2
      refine ⟨Ext.refl t2, ?_⟩
      unfold RepD
      exact e4
    · rw [List.getElem?_eq_none (by simpa using hi)] at e
      cases e
  · show n ≤ (intsFrom lo n).length
    unfold intsFrom
    simp
def small62 (i : Int) : Bool := decide (i.natAbs < 2 ^ 62)
theorem small62.ok {i : Int} (h : small62 i = true) : -(2 ^ 62) ≤ i ∧ i < 2 ^ 62 := by
  unfold small62 at h
  have h := of_decide_eq_true h
  omega
def iRg1 (a : AF) : AF := fun env => bd (a env) fun ds e => match ds with
  | [.int j] => if small62 j = true then some (.ok (intsFrom 0 j.toNat) e) else none
  | _ => none
def iRg2 (a : AF) : AF := fun env => bd (a env) fun ds e => match ds with
  | [.int i, .int j] => if small62 i = true ∧ small62 j = true then some (.ok (intsFrom i (j - i).toNat) e) else none
  | _ => none
theorem int_of {A : Hid} {H : Hp} {i : Int} {x : V} (h : RepD G A H (.int i) x) : x = .int i := by
  unfold RepD at h
  exact h
theorem ei_range1 {tg a : Expr} {p pos : Pos} {f : AF} (hg : Gl X "range") (hm : X.mg "range" = none) (ha : PA X [a] (tEvA G XR W f)) (hs : starEach [a] X.env = [(false, eval a X.env)] := by rfl) : PI X tg (.Call (.Name "range" p) [a] [] pos) (tEvI G XR W (iRg1 f)) :=
  PI_imp (pi_range1 hg hm ha hs) fun σ H Rr ⟨A, env, R, p⟩ => by
    refine (evA_seq R p).imp fun xs H1 ⟨A1, e1, ds, R1, k1, F1, p1⟩ => ?_
    split at p1
    · rename_i j
      split at p1
      · rename_i hz
        obtain ⟨v, r, rfl, h1, h2⟩ := k1.inv
        obtain rfl := h2.inv0
        exact ⟨j, by rw [int_of h1], (small62.ok hz).1, (small62.ok hz).2, p1 A1 H1 R1 (Fr.refl _ _ _) _ it_range⟩
      · exact p1.elim
    · exact p1.elim
/-! ### for -/
def forG (g : GF) (b : SF) : List D → SF
  | [] => fun env => some (.ok .next env)
  | d :: ds => fun env => bd (g d env) fun _ e => bd (b e) (forK (forG g b ds))
def sFor (it : AF) (g : GF) (b : SF) : SF := fun env => bd (it env) fun ds e => forG g b ds e
theorem exI_seq {f : AF} {k : List D → Env → Option (Rs Fl)} {D : Ends} {σ : St} {A : Hid} {H : Hp} {env : Env} (R : Rep G A σ H env) (p : PostS G XR W fx D σ A H env (bd (f env) k)) :
    tEvI G XR W f σ H (fun J H1 => ∃ A1 env1 ds, Rep G A1 σ H1 env1 ∧ ItOk G J A1 H1 ds ∧ Fr (Own σ env) A H (Own σ env1) A1 H1 ∧ PostS G XR W fx D σ A1 H1 env1 (k ds env1)) := by
  refine ⟨A, env, R, ?_⟩
  cases hf : f env with
  | none =>
    rw [hf] at p
    exact p
  | some r =>
    rw [hf] at p
    cases r with
    | ok o e1 => exact fun A1 H1 R1 F1 J ij => ⟨A1, e1, o, R1, ij, F1, PostS.imp (Ends.Le.refl _) (Keep.refl _ _) F1 p⟩
    | ex x e1 => exact fun A1 H1 c d R1 F1 xr => p σ A1 H1 c d R1 (Keep.refl _ _) F1 xr
theorem tEvI.imp {f : AF} {σ : St} {H : Hp} {Q Q' : It → Hp → Prop} (h : tEvI G XR W f σ H Q) (i : ∀ v H', Q v H' → Q' v H') : tEvI G XR W f σ H Q' := by
  obtain ⟨A, env, R, p⟩ := h
  exact ⟨A, env, R, Post.imp (Fr.refl _ _ _) (fun _ _ _ _ _ q v o => i _ _ (q v o)) p⟩
/-- the target, then the rest -/
theorem postG_of {r : Option (Rs Unit)} {k : Env → Option (Rs Fl)} {D : Ends} {Q : St → Hp → Prop} {σ : St} {A : Hid} {H : Hp} {env : Env} (hN : ∀ σ' A' H' e, Rep G A' σ' H' e → Keep fx σ σ' → Fr (Own σ env) A H (Own σ' e) A' H' → PostS G XR W fx D σ' A' H' e (k e) → Q σ' H')
    (p : PostS G XR W fx D σ A H env (bd r fun _ e => k e)) : PostG G XR W fx Q σ A H env r := by
  cases r with
  | none => exact p
  | some q =>
    cases q with
    | ok u e => exact fun σ' A' H' R K F => hN σ' A' H' e R K F (PostS.imp (Ends.Le.refl _) K F p)
    | ex x e => exact p
theorem es_for {tg iter : Expr} {body : List Stmt} {pos : Pos} {it : AF} {g : GF} {b : SF} (hp : PassesOwn (model X.prog X.w) X.A X.env X.xe) (hc : X.calm = true) (hi : PI X tg iter (tEvI G XR W it)) (hg : PG X tg (tEvG G XR W fx g)) (hb : PSs X body (tEx G XR W fx b))
    (hs : ∀ x, foldedSetIterable iter X.env x = pure x := by intro _; rfl) : PS X (.For tg iter body [] pos) (tEx G XR W fx (sFor it g b)) := PS_imp (ps_for hp hc hi hg hb hs) fun D σ H ⟨A, env, R, p⟩ => by
  refine (exI_seq R p).imp fun J H1 ⟨A1, e1, ds, R1, ij, F1, p1⟩ => ?_
  refine ⟨fun i m σ H => i ≤ ds.length ∧ m = ds.length - i ∧ ∃ A env, Rep G A σ H env ∧ Stab A1 H1 A H ∧ PostS G XR W fx D σ A H env (forG g b (ds.drop i) env), ⟨_, Nat.zero_le _, rfl, A1, e1, R1, Stab.refl _ _, p1⟩, ?_⟩
  rintro i m σ2 H2 ⟨hi, rfl, A2, e2, R2, s2, p2⟩
  obtain ⟨turn, stop⟩ := ij A2 H2 R2.tup s2
  by_cases hl : i < ds.length
  · have ed : ds.drop i = ds[i] :: ds.drop (i + 1) := List.drop_eq_getElem_cons hl
    rw [ed] at p2
    obtain ⟨go, yl⟩ := turn i ds[i] (List.getElem?_eq_getElem hl)
    refine .inr ⟨go, fun σ' H' => ∃ A env, Rep G A σ' H' env ∧ Stab A1 H1 A H' ∧ PostS G XR W fx D σ' A H' env (forG g b (ds.drop (i + 1)) env), fun σ' H' ⟨A', e', R', s', p'⟩ => ⟨ds.length - (i + 1), by omega, hl, rfl, A', e', R', s', p'⟩, fun x H3 y => ?_⟩
    obtain ⟨ex, rd⟩ := yl x H3 y
    have R3 := ex.rep R2
    have p3 : PostS G XR W fx D σ2 A2 H3 e2 (bd (g ds[i] e2) fun _ e => bd (b e) (forK (forG g b (ds.drop (i + 1))))) := PostS.imp (Ends.Le.refl _) (Keep.refl _ _) (ex.fr _) p2
    refine ⟨A2, e2, ds[i], R3, rd, postG_of (fun σ4 A4 H4 e4 R4 K4 F4 p4 => ?_) p3⟩
    have s4 : Stab A1 H1 A4 H4 := (s2.trans ex.stab).trans (F4.stab fun p q => R3.own_hid q)
    exact ⟨A4, e4, R4, loop_post (k := forG g b (ds.drop (i + 1))) (fun σ5 A5 H5 e5 R5 K5 F5 p5 => ⟨A5, e5, R5, s4.trans (F5.stab fun p q => R4.own_hid q), p5⟩) p4⟩
  · have hn : i = ds.length := by omega
    subst hn
    rw [List.drop_length] at p2
    exact .inl ⟨stop, p2.now R2⟩
end
end Tk
/-! Tk4: defs and their calls. -/
namespace Tk
open PySem PySem.Spec PyProof.Rows L2

/-- a def keeps a promise wherever no repr is under way -/
structure FnG (P : Program) (w : World) (K : PySem.W.Frag) (mg : Str → Option Value) (base : Heap) (k : Nat) (f : Addr) (fd : FuncData) (ps : List Str) (sp : Sp) : Prop where
  len : ∀ vs H Q E, sp vs H Q E → vs.length = ps.length
  run : ∀ (A : Around) (outer : List PySem.Env) (s : Shared) (H : Hp) (args : Args) (us : List Value) (vs : List V) (Q : VK) (E : XK), Room k A → A.guards = some [] → Env0 P w K mg base A outer s H → BindsTo s fd args (ps.zip us) → Vals vs us → sp vs H Q E →
    codeAny (model P w) A (.call (.ref f) args) (CR (L2.CX P w) outer P w H s Q E) s

section
variable {P : Program} {w : World} {K : PySem.W.Frag} {mg : Str → Option Value} {base : Heap}
theorem FnG.mono {j k : Nat} {f : Addr} {fd : FuncData} {ps : List Str} {sp : Sp} (F : FnG P w K mg base j f fd ps sp) (h : j ≤ k) : FnG P w K mg base k f fd ps sp :=
  ⟨F.len, fun A outer s H args us vs Q E hr hg => F.run A outer s H args us vs Q E (hr.mono h) hg⟩

/-- a def by its body -/
theorem fng_of {x qual : Str} {st : Stmt} {f : Addr} {fd : FuncData} {N ps : List Str} {k : Nat} {sp : Sp} (F : Fun K x qual st f fd) (S : FnScope N ps (defScope st)) (len : ∀ vs H Q E, sp vs H Q E → vs.length = ps.length)
    (hbody : ∀ (cdv : Value) (A : Around) (outer : List PySem.Env) (s : Shared) (H : Hp) (vs : List V) (Q : VK) (E : XK), Room k (A.deeper (envOfC qual (defScope st) s.heap.objs.size f cdv)) → A.guards = some [] → sp vs H Q E →
      ∃ t, PSs (cxOf (L2.CX P w) P w K mg base N qual (defScope st) f cdv A outer s H E) (defBody st) t ∧ t { nx := fun _ H' => Q .non H', rt := Q } (L2.start N vs) H) : FnG P w K mg base (k + 1) f fd ps sp := by
  obtain ⟨oc, od, kV, doc, pm, an, cdv, ct, osl, rfl, lk, hcd⟩ := F.ex
  refine ⟨len, fun A outer s H args us vs Q E room hg env0 bind rel hsp => ?_⟩
  have hl := len _ _ _ _ hsp
  have inK : K.In s.heap := env0.mod.kin.keeps fun b o e => (env0.bs b o e).1
  have noLim : s.heap.NoLimit := env0.mod.nolimit.keeps fun b o e => (env0.bs b o e).1
  have kinds : ∀ y ∈ ps.zip us, (defScope st).names.lookup y.1 = some .local ∨ ((defScope st).names.lookup y.1 = some .cell ∧ ((cellsFrom (s.heap.objs.size + 1) (defScope st).names []).lookup y.1).isSome = true) := by
    rintro ⟨n, v⟩ hy
    rcases S.par n (List.of_mem_zip hy).1 with q | q
    · exact .inl q
    · exact .inr ⟨q, PySem.W.cellsFrom_some _ _ _ (.inl q)⟩
  refine codeAny_call_function room.depth (inK _ _ lk) rfl S.co S.gen rfl (PySem.W.codeRec_of inK hcd) (bind _ _ _ _ ?_)
  refine wpAny_newFunctionEnv_cells S.kind kinds fun env he s1 entry => ?_
  subst he
  refine ⟨noLim.keeps entry.toInCall.keep, codeAny_func ?_⟩
  obtain ⟨t, ht, hq⟩ := hbody cdv A outer s H vs Q E (room.deeper _) hg hsp
  have I : Inv (cxOf (L2.CX P w) P w K mg base N qual (defScope st) f cdv A outer s H E) [] (L2.start N vs) H s1 := inv_start S room.hd env0 hl rel entry
  refine wpAny_mono (ht.run [] s1 (L2.start N vs) H _ I hq) (fun fl s' hs => ?_) fun e s' hs => hs
  cases fl with
  | ret u =>
    obtain ⟨v, σ', H', J, rv, q⟩ := hs
    exact ⟨v, H', J.os, J.bare, J.base, J.hok, rv, q⟩
  | next =>
    obtain ⟨σ', H', J, q⟩ := hs
    exact ⟨V.non, H', J.os, J.bare, J.base, J.hok, rfl, q⟩
  | brk =>
    obtain ⟨_, _, _, q⟩ := hs
    exact q.elim
  | cont =>
    obtain ⟨_, _, _, q⟩ := hs
    exact q.elim
end

/-! ### the call of such a def -/
section
variable {X : Cx} {k : Nat} {f : Addr} {fd : FuncData} {ps ks : List Str} {sp : Sp} {W : WX} {x : Str} {p pos : Pos} {e : Expr} {es : List Expr} {kws : List Keyword} {t tk : TA}
def tCallG (sp : Sp) (W : WX) (t : TA) : TE := fun σ H Q => t σ H fun vs H1 => sp vs H1 Q fun c d H' => W c d σ H'
def tCallGK (sp : Sp) (gV : List V → List V → List V) (W : WX) (t tk : TA) : TE := fun σ H Q => t σ H fun vs H1 => tk σ H1 fun zs H2 => sp (gV vs zs) H2 Q fun c d H' => W c d σ H'
theorem run_g {pins : List (Addr × Obj)} {σ : L2.St} {H : Hp} {s : Shared} {Q : VK} {us : List Value} {kw : List (Str × Value)} {as : List Value} {vs : List V} (F : FnG X.prog X.w X.K X.mg X.base k f fd ps sp) (hr : Room k X.A) (hg : X.A.guards = some []) (tk : Takes X W) (I : Inv X pins σ H s)
    (hb : BindsTo s fd ⟨us, kw⟩ (ps.zip as)) (r : Vals vs as) (h : sp vs H Q fun c d H' => W c d σ H') : wpAny (model X.prog X.w) X.A (call (.ref f) us kw) (EP X pins σ Q) X.xe s := by
  refine wpAny_call (codeAny_mono (F.run X.A X.stack s H ⟨us, kw⟩ as vs Q _ hr hg I.env0 hb r h) fun r s' hq => ?_)
  cases r with
  | error e => exact tk e s' (XE.of_call I (fun _ _ _ z => z) hq)
  | ok fl =>
    cases fl with
    | ret u => exact I.after hq
    | next => exact hq.elim
    | brk => exact hq.elim
    | cont => exact hq.elim
theorem pe_callG (F : FnG X.prog X.w X.K X.mg X.base k f fd ps sp) (hr : Room k X.A) (hgu : X.A.guards = some []) (tk : Takes X W) (hg : Gl X x) (hm : X.mg x = some (.ref f)) (hk : PySem.W.keepIn X.K (.ref f) = true) (hb : Binds X.K fd ps [])
    (ha : PA X (e :: es) t) (hdb : (x == ("__debug__" : Str)) = false := by decide) (he : starEach (e :: es) X.env = (false, eval e X.env) :: starEach es X.env := by rfl) (hpl : (backTo pos (starEach es X.env)).any (·.1) = false := by rfl) :
    PE X (.Call (.Name x p) (e :: es) [] pos) (tCallG sp W t) := by
  refine ⟨fun pins s σ H Q I h => ?_⟩
  refine wpAny_Call_Name_kw (ld_glob I hg hm (PySem.W.callWith_K (h₀ := X.base) I.ok.mod.kin hk (thn (ha.run pos pins s σ H _ I h) fun us s1 ⟨vs, H1, I1, r, q⟩ => ⟨I1.kIn, ?_⟩) he hpl) hdb)
  have hl : (us ++ []).length = ps.length := by
    rw [List.append_nil, ← r.length]
    exact F.len _ _ _ _ q
  have hb1 := hb s1 us I1.kIn hl
  rw [List.append_nil] at hb1
  exact run_g F hr hgu tk I1 hb1 r q
end

/-! ### promises over data -/
inductive RR where
  | ok (r : RV)
  | ex (x : Exc)
inductive RM where
  | ok (r : RV) (d : D)
  | ex (x : Exc) (d : D)
structure ExtBut (p : Addr) (A : Hid) (H : Hp) (A' : Hid) (H' : Hp) : Prop where
  same : ∀ a o, H a = some o → a ≠ p → H' a = some o ∧ (A' a ↔ A a)
  tup : TupOk A' H'
  here : A' p
def PostP (G : Tb) (XR : XW) (A : Hid) (H : Hp) (Q : VK) (E : XK) : Option RR → Prop
  | none => False
  | some (.ok rv) => ∀ v A' H', Ext A H A' H' → RvOk G H A' H' rv v → Q v H'
  | some (.ex x) => ∀ c d A' H', Ext A H A' H' → XR G x c d A' H' → E c d H'
def PostM (G : Tb) (XR : XW) (p : Addr) (A : Hid) (H : Hp) (Q : VK) (E : XK) : Option RM → Prop
  | none => False
  | some (.ok rv d) => ∀ v A' H', ExtBut p A H A' H' → RepTop G A' H' d p → RvOk G H A' H' rv v → Q v H'
  | some (.ex x d) => ∀ c dx A' H', ExtBut p A H A' H' → RepTop G A' H' d p → XR G x c dx A' H' → E c dx H'
/-- a def that changes nothing | one that changes its first argument -/
def spP (G : Tb) (XR : XW) (n : Nat) (Φ : List D → Option RR) : Sp := fun vs H Q E => ∃ A ds, vs.length = n ∧ TupOk A H ∧ RepDs G A H ds vs ∧ PostP G XR A H Q E (Φ ds)
def spM (G : Tb) (XR : XW) (n : Nat) (Φ : D → List D → Option RM) : Sp := fun vs H Q E => ∃ A p vr d ds, vs = .ref p :: vr ∧ vs.length = n ∧ TupOk A H ∧ A p ∧ RepTop G A H d p ∧ RepDs G A H ds vr ∧ PostM G XR p A H Q E (Φ d ds)

/-! ### a def's run as a function of data -/
def startE (n : Nat) (ds : List D) : Env := ds.map (fun d => some (.dat d)) ++ List.replicate (n - ds.length) none
def startM (n : Nat) (d : D) (ds : List D) : Env := some (.own d) :: (ds.map (fun d => some (.dat d)) ++ List.replicate (n - (ds.length + 1)) none)
def retOf (e : Env) : Out → Option RV
  | .dat d => some (.dat d)
  | .fresh d => some (.fresh d)
  | .slot i => match e[i]? with
    | some (some (.dat d)) => some (.dat d)
    | some (some (.own d)) => some (.fresh d)
    | _ => none
def runP (g : SF) (n : Nat) (ds : List D) : Option RR := match g (startE n ds) with
  | some (.ok .next _) => some (.ok (.dat .non))
  | some (.ok (.ret o) e) => (retOf e o).map .ok
  | some (.ex x _) => some (.ex x)
  | _ => none
def own0 (e : Env) : Option D := match (e[0]? : Option (Option Cell)) with
  | some (some (.own d)) => some d
  | _ => none
def not0 : Out → Bool
  | .slot 0 => false
  | _ => true
def runM (g : SF) (n : Nat) (d : D) (ds : List D) : Option RM := match g (startM n d ds) with
  | some (.ok .next e) => (own0 e).map fun d' => .ok (.dat .non) d'
  | some (.ok (.ret o) e) => match own0 e, retOf e o with
    | some d', some rv => if not0 o = true then some (.ok rv d') else none
    | _, _ => none
  | some (.ex x e) => (own0 e).map fun d' => .ex x d'
  | _ => none

section
variable {G : Tb} {XR : XW}
theorem startE_get {n : Nat} {ds : List D} {i : Nat} {c : Cell} (h : (startE n ds)[i]? = some (some c)) : ∃ d, c = .dat d ∧ ds[i]? = some d := by
  unfold startE at h
  by_cases hi : i < ds.length
  · rw [List.getElem?_append_left (by simpa using hi), List.getElem?_map, List.getElem?_eq_getElem hi] at h
    cases h
    exact ⟨_, rfl, List.getElem?_eq_getElem hi⟩
  · rw [List.getElem?_append_right (by simpa using hi), List.getElem?_replicate] at h
    split at h <;> cases h
theorem start_get {N : List Str} {vs : List V} {i : Nat} {v : V} (h : vs[i]? = some v) : (L2.start N vs)[i]? = some (some v) := by
  unfold L2.start
  have hi := (List.getElem?_eq_some_iff.mp h).1
  rw [List.getElem?_append_left (by simpa using hi), List.getElem?_map, h]
  rfl
theorem rep_startE {A : Hid} {H : Hp} {N : List Str} {ds : List D} {vs : List V} (t : TupOk A H) (r : RepDs G A H ds vs) : Rep G A (L2.start N vs) H (startE N.length ds) ∧ ∀ q, ¬ Own (L2.start N vs) (startE N.length ds) q := by
  have no : ∀ (i : Nat) d, (startE N.length ds)[i]? ≠ some (some (Cell.own d)) := fun i d h => by
    obtain ⟨d', e, _⟩ := startE_get h
    cases e
  refine ⟨⟨?_, t, fun i c h => ?_, fun i j d e v h => absurd h (no i d)⟩, fun q ⟨i, d, h, _⟩ => no i d h⟩
  · unfold startE L2.start
    simp only [List.length_append, List.length_map, List.length_replicate, r.length]
  · obtain ⟨d, rfl, e⟩ := startE_get h
    obtain ⟨v, e1, k⟩ := r.get e
    exact ⟨v, start_get e1, k⟩
theorem startM_get {n : Nat} {d0 : D} {ds : List D} {i : Nat} {c : Cell} (h : (startM n d0 ds)[i]? = some (some c)) : (i = 0 ∧ c = .own d0) ∨ ∃ j d, i = j + 1 ∧ c = .dat d ∧ ds[j]? = some d := by
  cases i with
  | zero =>
    cases h
    exact .inl ⟨rfl, rfl⟩
  | succ j =>
    have h : (ds.map (fun d => some (Cell.dat d)) ++ List.replicate (n - (ds.length + 1)) none)[j]? = some (some c) := h
    refine .inr ⟨j, ?_⟩
    by_cases hi : j < ds.length
    · rw [List.getElem?_append_left (by simpa using hi), List.getElem?_map, List.getElem?_eq_getElem hi] at h
      cases h
      exact ⟨_, rfl, rfl, List.getElem?_eq_getElem hi⟩
    · rw [List.getElem?_append_right (by simpa using hi), List.getElem?_replicate] at h
      split at h <;> cases h
theorem rep_startM {A : Hid} {H : Hp} {N : List Str} {d : D} {ds : List D} {p : Addr} {vr : List V} (t : TupOk A H) (a : A p) (top : RepTop G A H d p) (r : RepDs G A H ds vr) :
    Rep G A (L2.start N (.ref p :: vr)) H (startM N.length d ds) ∧ ∀ q, Own (L2.start N (.ref p :: vr)) (startM N.length d ds) q → q = p := by
  have z : (L2.start N (.ref p :: vr))[0]? = some (some (.ref p)) := start_get rfl
  have own : ∀ (i : Nat) d', (startM N.length d ds)[i]? = some (some (Cell.own d')) → i = 0 := fun i d' h => by
    rcases startM_get h with ⟨h0, _⟩ | ⟨_, _, _, e, _⟩
    · exact h0
    · cases e
  refine ⟨⟨?_, t, fun i c h => ?_, fun i j d1 d2 v h1 h2 _ _ => (own i d1 h1).trans (own j d2 h2).symm⟩, fun q ⟨i, d', h1, h2⟩ => ?_⟩
  · unfold startM L2.start
    simp only [List.length_cons, List.length_append, List.length_map, List.length_replicate, r.length]
    omega
  · rcases startM_get h with ⟨rfl, rfl⟩ | ⟨j, d', rfl, rfl, e⟩
    · exact ⟨_, z, p, rfl, a, top⟩
    · obtain ⟨v, e1, k⟩ := r.get e
      exact ⟨v, start_get (i := j + 1) e1, k⟩
  · have hi := own i d' h1
    subst hi
    rw [z] at h2
    cases h2
    rfl

theorem ret_ok {A : Hid} {σ : L2.St} {H H0 : Hp} {e : Env} {o : Out} {v : V} {rv : RV} (R : Rep G A σ H e) (ow : ∀ i d p, o = .slot i → e[i]? = some (some (.own d)) → σ[i]? = some (some (.ref p)) → H0 p = none) (ok : OutOk G H0 A σ H e o v) (h : retOf e o = some rv) : RvOk G H0 A H rv v := by
  cases o with
  | dat d =>
    cases h
    exact ok
  | fresh d =>
    cases h
    obtain ⟨p, e1, e2, a, _, t⟩ := ok
    exact ⟨p, e1, e2, a, t⟩
  | slot i =>
    have ok : σ[i]? = some (some v) := ok
    unfold retOf at h
    simp only at h
    split at h
    · rename_i d e1
      cases h
      obtain ⟨u, e2, c⟩ := R.cell i _ e1
      rw [ok] at e2
      cases e2
      exact c
    · rename_i d e1
      cases h
      obtain ⟨u, e2, p, e3, a, t⟩ := R.cell i _ e1
      rw [ok] at e2
      cases e2
      subst e3
      exact ⟨p, rfl, ow i d p rfl e1 ok, a, t⟩
    · cases h

/-- the promise of a def that changes nothing, from its body -/
theorem runP_ok {N : List Str} {g : SF} {Φ : List D → Option RR} {A : Hid} {H : Hp} {ds : List D} {vs : List V} {Q : VK} {E : XK} (hΦ : ∀ ds r, Φ ds = some r → runP g N.length ds = some r) (t : TupOk A H) (r : RepDs G A H ds vs) (p : PostP G XR A H Q E (Φ ds)) :
    tEx G XR (fun c d _ H => E c d H) [] g { nx := fun _ H' => Q .non H', rt := Q } (L2.start N vs) H := by
  cases hr : Φ ds with
  | none =>
    rw [hr] at p
    exact p.elim
  | some rr =>
    rw [hr] at p
    have hg := hΦ ds rr hr
    obtain ⟨R, no⟩ := rep_startE (N := N) t r
    refine ⟨A, startE N.length ds, R, ?_⟩
    have ext : ∀ {σ' A' H' e}, Rep G A' σ' H' e → Fr (Own (L2.start N vs) (startE N.length ds)) A H (Own σ' e) A' H' → Ext A H A' H' := fun R' F => ⟨fun a o h => F.keep a o h (no a), R'.tup⟩
    unfold runP at hg
    cases hq : g (startE N.length ds) with
    | none =>
      rw [hq] at hg
      cases hg
    | some q =>
      rw [hq] at hg
      cases q with
      | ex x e =>
        cases hg
        exact fun σ' A' H' c d R' K F xr => p c d A' H' (ext R' F) xr
      | ok fl e =>
        cases fl with
        | next =>
          cases hg
          exact fun σ' A' H' R' K F => p .non A' H' (ext R' F) (by show RepD G A' H' _ _; unfold RepD; rfl)
        | brk => cases hg
        | cont => cases hg
        | ret o =>
          simp only at hg
          cases ho : retOf e o with
          | none =>
            rw [ho] at hg
            cases hg
          | some rv =>
            rw [ho] at hg
            cases hg
            refine fun σ' A' H' v R' K F ok => p v A' H' (ext R' F) (ret_ok R' (fun i d q _ h1 h2 => ?_) ok ho)
            rcases F.own q ⟨i, d, h1, h2⟩ with z | z
            · exact absurd z (no q)
            · exact z
theorem runM_ok {N : List Str} {g : SF} {Φ : D → List D → Option RM} {A : Hid} {H : Hp} {d : D} {ds : List D} {p : Addr} {vr : List V} {Q : VK} {E : XK} (hΦ : ∀ d ds r, Φ d ds = some r → runM g N.length d ds = some r) (t : TupOk A H) (a : A p) (top : RepTop G A H d p)
    (r : RepDs G A H ds vr) (po : PostM G XR p A H Q E (Φ d ds)) : tEx G XR (fun c d _ H => E c d H) [0] g { nx := fun _ H' => Q .non H', rt := Q } (L2.start N (.ref p :: vr)) H := by
  cases hr : Φ d ds with
  | none =>
    rw [hr] at po
    exact po.elim
  | some rr =>
    rw [hr] at po
    have hg := hΦ d ds rr hr
    obtain ⟨R, own⟩ := rep_startM (N := N) t a top r
    have z : (L2.start N (.ref p :: vr))[0]? = some (some (.ref p)) := start_get rfl
    refine ⟨A, startM N.length d ds, R, ?_⟩
    have fin : ∀ {σ' A' H' e d'}, Rep G A' σ' H' e → Keep [0] (L2.start N (.ref p :: vr)) σ' → Fr (Own (L2.start N (.ref p :: vr)) (startM N.length d ds)) A H (Own σ' e) A' H' → own0 e = some d' → ExtBut p A H A' H' ∧ RepTop G A' H' d' p ∧ σ'[0]? = some (some (.ref p)) := by
      intro σ' A' H' e d' R' K F ho
      unfold own0 at ho
      split at ho
      · rename_i d2 e1
        cases ho
        obtain ⟨v, e2, q, e3, a2, t2⟩ := R'.cell 0 _ e1
        have k0 : σ'[0]? = some (some (.ref p)) := (K 0 (by simp)).trans z
        rw [k0] at e2
        cases e2
        cases e3
        exact ⟨⟨fun b o h n => F.keep b o h fun w => n (own b w), R'.tup, a2⟩, t2, k0⟩
      · cases ho
    unfold runM at hg
    cases hq : g (startM N.length d ds) with
    | none =>
      rw [hq] at hg
      cases hg
    | some q =>
      rw [hq] at hg
      cases q with
      | ex x e =>
        simp only at hg
        cases ho : own0 e with
        | none =>
          rw [ho] at hg
          cases hg
        | some d' =>
          rw [ho] at hg
          cases hg
          intro σ' A' H' c dx R' K F xr
          obtain ⟨f1, f2, _⟩ := fin R' K F ho
          exact po c dx A' H' f1 f2 xr
      | ok fl e =>
        cases fl with
        | next =>
          simp only at hg
          cases ho : own0 e with
          | none =>
            rw [ho] at hg
            cases hg
          | some d' =>
            rw [ho] at hg
            cases hg
            intro σ' A' H' R' K F
            obtain ⟨f1, f2, _⟩ := fin R' K F ho
            exact po .non A' H' f1 f2 (by show RepD G A' H' _ _; unfold RepD; rfl)
        | brk => cases hg
        | cont => cases hg
        | ret o =>
          simp only at hg
          cases ho : own0 e with
          | none =>
            rw [ho] at hg
            cases hg
          | some d' =>
            cases hv : retOf e o with
            | none =>
              rw [ho, hv] at hg
              cases hg
            | some rv =>
              rw [ho, hv] at hg
              simp only at hg
              split at hg
              · rename_i hn
                cases hg
                intro σ' A' H' v R' K F ok
                obtain ⟨f1, f2, k0⟩ := fin R' K F ho
                refine po v A' H' f1 f2 (ret_ok R' (fun i d2 q ei h1 h2 => ?_) ok hv)
                rcases F.own q ⟨i, d2, h1, h2⟩ with w | w
                · exfalso
                  have hqp := own q w
                  subst hqp
                  unfold own0 at ho
                  split at ho
                  · rename_i d3 e3
                    have hi := R'.inj i 0 d2 d3 _ h1 e3 h2 k0
                    rw [ei, hi] at hn
                    exact Bool.noConfusion hn
                  · cases ho
                · exact w
              · cases hg
end

section
variable {P : Program} {w : World} {K : PySem.W.Frag} {mg : Str → Option Value} {base : Heap} {G : Tb} {XR : XW}
/-- THE RULE: a def that changes nothing -/
theorem fn_p {x qual : Str} {st : Stmt} {f : Addr} {fd : FuncData} {N ps : List Str} {k : Nat} {g : SF} {Φ : List D → Option RR} (F : Fun K x qual st f fd) (S : FnScope N ps (defScope st)) (hΦ : ∀ ds r, Φ ds = some r → runP g N.length ds = some r)
    (der : ∀ (cdv : Value) (A : Around) (outer : List PySem.Env) (s : Shared) (H : Hp) (E : XK), Room k (A.deeper (envOfC qual (defScope st) s.heap.objs.size f cdv)) → A.guards = some [] →
      PSs (cxOf (L2.CX P w) P w K mg base N qual (defScope st) f cdv A outer s H E) (defBody st) (tEx G XR (fun c d _ H => E c d H) [] g)) : FnG P w K mg base (k + 1) f fd ps (spP G XR ps.length Φ) := by
  refine fng_of F S (fun vs H Q E h => ?_) fun cdv A outer s H vs Q E hr hg h => ?_
  · obtain ⟨_, _, hl, _⟩ := h
    exact hl
  · obtain ⟨A', ds, hl, t, r, p⟩ := h
    exact ⟨_, der cdv A outer s H E hr hg, runP_ok hΦ t r p⟩
/-- .. one that changes its first argument -/
theorem fn_m {x qual : Str} {st : Stmt} {f : Addr} {fd : FuncData} {N ps : List Str} {k : Nat} {g : SF} {Φ : D → List D → Option RM} (F : Fun K x qual st f fd) (S : FnScope N ps (defScope st)) (hΦ : ∀ d ds r, Φ d ds = some r → runM g N.length d ds = some r)
    (der : ∀ (cdv : Value) (A : Around) (outer : List PySem.Env) (s : Shared) (H : Hp) (E : XK), Room k (A.deeper (envOfC qual (defScope st) s.heap.objs.size f cdv)) → A.guards = some [] →
      PSs (cxOf (L2.CX P w) P w K mg base N qual (defScope st) f cdv A outer s H E) (defBody st) (tEx G XR (fun c d _ H => E c d H) [0] g)) : FnG P w K mg base (k + 1) f fd ps (spM G XR ps.length Φ) := by
  refine fng_of F S (fun vs H Q E h => ?_) fun cdv A outer s H vs Q E hr hg h => ?_
  · obtain ⟨_, _, _, _, _, _, hl, _⟩ := h
    exact hl
  · obtain ⟨A', p, vr, d, ds, rfl, hl, t, a, top, r, po⟩ := h
    exact ⟨_, der cdv A outer s H E hr hg, runM_ok hΦ t a top r po⟩
end

/-! ### calls, as functions of data -/
section
variable {G : Tb} {XR : XW} {W : WX} {X : Cx}
def callK (r : Option RR) (e : Env) : Option (Rs Out) := match r with
  | some (.ok rv) => some (.ok rv.out e)
  | some (.ex x) => some (.ex x e)
  | none => none
def cCall (n : Nat) (Φ : List D → Option RR) (a : AF) : EF := fun env => bd (a env) fun ds e => if ds.length = n then callK (Φ ds) e else none
theorem call_post {Φr : Option RR} {σ : L2.St} {A A0 : Hid} {H H0 : Hp} {env0 e : Env} {Q : VK} (R : Rep G A σ H e) (F0 : Fr (Own σ env0) A0 H0 (Own σ e) A H) (p : Post G XR W σ A H e (fun o e A' H' => ∀ v, OutOk G H0 A' σ H' e o v → Q v H') (callK Φr e)) :
    PostP G XR A H Q (fun c d H' => W c d σ H') Φr := by
  cases Φr with
  | none => exact p
  | some r =>
    cases r with
    | ok rv => exact fun v A' H' ex ro => fin_rv R (fun q h => F0.none h) p ex ro
    | ex x => exact fun c d A' H' ex xr => p A' H' c d (ex.rep R) (ex.fr _) xr
theorem ev_call {k n : Nat} {f : Addr} {fd : FuncData} {ps : List Str} {Φ : List D → Option RR} {x : Str} {p pos : Pos} {e : Expr} {es : List Expr} {a : AF} (F : FnG X.prog X.w X.K X.mg X.base k f fd ps (spP G XR n Φ)) (hr : Room k X.A) (hgu : X.A.guards = some []) (tk : Takes X W) (hg : Gl X x) (hm : X.mg x = some (.ref f))
    (hk : PySem.W.keepIn X.K (.ref f) = true) (hb : Binds X.K fd ps []) (ha : PA X (e :: es) (tEvA G XR W a)) (hdb : (x == ("__debug__" : Str)) = false := by decide)
    (he : starEach (e :: es) X.env = (false, eval e X.env) :: starEach es X.env := by rfl) (hpl : (backTo pos (starEach es X.env)).any (·.1) = false := by rfl) : PE X (.Call (.Name x p) (e :: es) [] pos) (tEv G XR W (cCall n Φ a)) :=
  PE_imp (pe_callG F hr hgu tk hg hm hk hb ha hdb he hpl) fun σ H Q ⟨A, env, R, p⟩ => by
    refine ⟨A, env, R, ?_⟩
    unfold cCall at p
    cases hf : a env with
    | none =>
      rw [hf] at p
      exact p
    | some r =>
      rw [hf] at p
      cases r with
      | ex x e1 => exact p
      | ok ds e1 =>
        intro A1 H1 R1 F1 vs k1
        rw [bd_ok] at p
        split at p
        · rename_i hn
          exact ⟨A1, ds, by rw [← k1.length]; exact hn, R1.tup, k1, call_post R1 F1 (Post.imp F1 (fun _ _ _ _ _ q => q) p)⟩
        · exact p.elim
end
end Tk
/-! Tk5: calls that change their first argument, keywords, methods of own lists, item stores, comprehensions. -/
namespace Tk
open PySem PySem.Spec PyProof.Rows L2

section
variable {G : Tb} {XR : XW} {W : WX} {X : Cx} {fx : List Nat}

theorem ExtBut.stab {p : Addr} {A A' : Hid} {H H' : Hp} (x : ExtBut p A H A' H') (a : A p) : Stab A H A' H' := fun b o e n =>
  have q := x.same b o e fun z => n (z ▸ a)
  ⟨q.1, fun z => n (q.2.mp z)⟩
theorem Rep.setTop {σ : L2.St} {A A' : Hid} {H H' : Hp} {e : Env} {i : Nat} {d d' : D} {p : Addr} (R : Rep G A σ H e) (h1 : e[i]? = some (some (.own d))) (h2 : σ[i]? = some (some (.ref p))) (x : ExtBut p A H A' H') (t : RepTop G A' H' d' p) :
    Rep G A' σ H' (e.set i (some (.own d'))) ∧ Fr (Own σ e) A H (Own σ (e.set i (some (.own d')))) A' H' := by
  have hp : Own σ e p := ⟨i, d, h1, h2⟩
  have ha : A p := R.own_hid hp
  have st := x.stab ha
  have back : ∀ (j : Nat) (c : D), (e.set i (some (.own d')))[j]? = some (some (Cell.own c)) → ∃ c', e[j]? = some (some (Cell.own c')) := fun j c k => by
    by_cases hj : i = j
    · subst hj
      exact ⟨d, h1⟩
    · rw [get_set_ne hj] at k
      exact ⟨c, k⟩
  refine ⟨⟨by rw [List.length_set]; exact R.len, x.tup, fun j c k => ?_, fun j1 j2 d1 d2 w k1 k2 k3 k4 => ?_⟩, ⟨fun b o hb n => x.same b o hb fun z => n (z ▸ hp), fun q ⟨j, c, k1, k2⟩ => ?_, fun b o hb => ?_⟩⟩
  · by_cases hj : i = j
    · subst hj
      rw [get_set_self h1] at k
      cases k
      exact ⟨_, h2, p, rfl, x.here, t⟩
    · rw [get_set_ne hj] at k
      obtain ⟨u, e3, c3⟩ := R.cell j c k
      refine ⟨u, e3, ?_⟩
      cases c with
      | dat d0 => exact RepD.mono st R.tup d0 u c3
      | exc y => exact CellOk.exc_mono st R.tup c3
      | own d0 =>
        obtain ⟨q, e4, a4, t4⟩ := c3
        subst e4
        have hq : q ≠ p := fun z => hj (R.inj i j d d0 (.ref p) h1 k h2 (z ▸ e3))
        obtain ⟨o, e5, _⟩ := R.tup q a4
        exact ⟨q, rfl, (x.same q o e5 hq).2.mpr a4, t4.mono st R.tup fun o' z => (x.same q o' z hq).1⟩
  · obtain ⟨c1, m1⟩ := back _ _ k1
    obtain ⟨c2, m2⟩ := back _ _ k2
    exact R.inj j1 j2 c1 c2 w m1 m2 k3 k4
  · obtain ⟨c1, m1⟩ := back _ _ k1
    exact .inl ⟨j, c1, m1, k2⟩
  · by_cases hb' : b = p
    · subst hb'
      obtain ⟨o', e', _⟩ := t.some
      exact ⟨o', e'⟩
    · exact ⟨o, (x.same b o hb hb').1⟩

/-! ### f(own, ..) -/
def callMK (i : Nat) (r : Option RM) (e : Env) : Option (Rs Out) := match r with
  | some (.ok rv d) => some (.ok rv.out (e.set i (some (.own d))))
  | some (.ex x d) => some (.ex x (e.set i (some (.own d))))
  | none => none
def ownAt (e : Env) (i : Nat) : Option D := match (e[i]? : Option (Option Cell)) with
  | some (some (.own d)) => some d
  | _ => none
theorem ownAt_eq {e : Env} {i : Nat} {d : D} (h : ownAt e i = some d) : e[i]? = some (some (.own d)) := by
  unfold ownAt at h
  split at h
  · cases h
    assumption
  · cases h
def cCallM (n : Nat) (Φ : D → List D → Option RM) (i : Nat) (a : AF) : EF := fun env => match ownAt env i with
  | some _ => bd (a env) fun ds e => if ds.length + 1 = n then match ownAt e i with
    | some d => callMK i (Φ d ds) e
    | none => none else none
  | none => none
theorem rv_out_set {σ : L2.St} {A' : Hid} {H H' H0 : Hp} {e : Env} {i : Nat} {d d' : D} {rv : RV} {v : V} {A : Hid} (R : Rep G A σ H e) (h1 : e[i]? = some (some (.own d))) (k : ∀ p, H p = none → H0 p = none) (h : RvOk G H A' H' rv v) : OutOk G H0 A' σ H' (e.set i (some (.own d'))) rv.out v := by
  cases rv with
  | dat d => exact h
  | fresh d0 =>
    obtain ⟨q, e1, e2, a, t⟩ := h
    refine ⟨q, e1, k q e2, a, fun ⟨j, c, k1, k2⟩ => ?_, t⟩
    have : ∃ c', e[j]? = some (some (Cell.own c')) := by
      by_cases hj : i = j
      · subst hj
        exact ⟨d, h1⟩
      · rw [get_set_ne hj] at k1
        exact ⟨c, k1⟩
    obtain ⟨c', m⟩ := this
    obtain ⟨o, e3⟩ := R.own_some ⟨j, c', m, k2⟩
    rw [e2] at e3
    cases e3
theorem ev_callM {k n i : Nat} {f : Addr} {fd : FuncData} {ps : List Str} {Φ : D → List D → Option RM} {x : Str} {p pos : Pos} {e : Expr} {es : List Expr} {a : AF} (F : FnG X.prog X.w X.K X.mg X.base k f fd ps (spM G XR n Φ)) (hr : Room k X.A) (hgu : X.A.guards = some []) (tk : Takes X W) (hg : Gl X x) (hm : X.mg x = some (.ref f))
    (hk : PySem.W.keepIn X.K (.ref f) = true) (hb : Binds X.K fd ps []) (hv : PE X e (tVar i)) (ha : PA X es (tEvA G XR W a)) (hdb : (x == ("__debug__" : Str)) = false := by decide)
    (he : starEach (e :: es) X.env = (false, eval e X.env) :: starEach es X.env := by rfl) (hpl : (backTo pos (starEach es X.env)).any (·.1) = false := by rfl) : PE X (.Call (.Name x p) (e :: es) [] pos) (tEv G XR W (cCallM n Φ i a)) :=
  PE_imp (pe_callG F hr hgu tk hg hm hk hb (pa_cons hv ha he) hdb he hpl) fun σ H Q ⟨A, env, R, p⟩ => by
    unfold cCallM at p
    split at p
    · rename_i d0 h0
      obtain ⟨v, e0, q, e1, _⟩ := R.cell i _ (ownAt_eq h0)
      subst e1
      refine ⟨_, e0, (evA_seq R p).imp fun vs H1 ⟨A1, e1, ds, R1, k1, F1, p1⟩ => ?_⟩
      split at p1
      · rename_i hn
        split at p1
        · rename_i d h1
          have h1 := ownAt_eq h1
          obtain ⟨v, e2, q', e3, a3, t3⟩ := R1.cell i _ h1
          rw [e0] at e2
          cases e2
          cases e3
          refine ⟨A1, q, vs, d, ds, rfl, by show vs.length + 1 = n; rw [← k1.length]; exact hn, R1.tup, a3, t3, k1, ?_⟩
          cases hr : Φ d ds with
          | none =>
            rw [hr] at p1
            exact p1
          | some r =>
            rw [hr] at p1
            cases r with
            | ok rv d' =>
              intro v A' H' ex t' ro
              obtain ⟨R2, F2⟩ := R1.setTop h1 e0 ex t'
              exact p1 A' H' R2 F2 v (rv_out_set R1 h1 (fun q h => F1.none h) ro)
            | ex x d' =>
              intro c dx A' H' ex t' xr
              obtain ⟨R2, F2⟩ := R1.setTop h1 e0 ex t'
              exact p1 A' H' c dx R2 F2 xr
        · exact p1.elim
      · exact p1.elim
    · exact p.elim

/-! ### f(a new list, ..) -/
def cCallT (n : Nat) (Φ : D → List D → Option RM) (f : EF) (a : AF) : EF := fun env => bd (f env) fun o e => match o with
  | .fresh d => bd (a e) fun ds e2 => if ds.length + 1 = n then match Φ d ds with
    | some (.ok rv _) => some (.ok rv.out e2)
    | some (.ex x _) => some (.ex x e2)
    | none => none else none
  | _ => none
theorem Rep.butTop {σ : L2.St} {O0 A A' A0 : Hid} {H H' H0 : Hp} {e : Env} {p : Addr} (R : Rep G A σ H e) (F0 : Fr O0 A0 H0 (Own σ e) A H) (a : A p) (n : ¬ Own σ e p) (h0 : H0 p = none) (x : ExtBut p A H A' H') (hx : ∃ o, H' p = some o) : Rep G A' σ H' e ∧ Fr O0 A0 H0 (Own σ e) A' H' := by
  have st := x.stab a
  refine ⟨⟨R.len, x.tup, fun j c k => ?_, R.inj⟩, ⟨fun b o hb nb => ?_, F0.own, fun b o hb => ?_⟩⟩
  · obtain ⟨u, e3, c3⟩ := R.cell j c k
    refine ⟨u, e3, ?_⟩
    cases c with
    | dat d0 => exact RepD.mono st R.tup d0 u c3
    | exc y => exact CellOk.exc_mono st R.tup c3
    | own d0 =>
      obtain ⟨q, e4, a4, t4⟩ := c3
      subst e4
      have hq : q ≠ p := fun z => n ⟨j, d0, k, z ▸ e3⟩
      obtain ⟨o, e5, _⟩ := R.tup q a4
      exact ⟨q, rfl, (x.same q o e5 hq).2.mpr a4, t4.mono st R.tup fun o' z => (x.same q o' z hq).1⟩
  · obtain ⟨h1, i1⟩ := F0.keep b o hb nb
    have hbp : b ≠ p := fun z => by
      rw [z, h0] at hb
      cases hb
    obtain ⟨h2, i2⟩ := x.same b o h1 hbp
    exact ⟨h2, i2.trans i1⟩
  · obtain ⟨o1, h1⟩ := F0.dom b o hb
    have hbp : b ≠ p := fun z => by
      rw [z, h0] at hb
      cases hb
    exact ⟨o1, (x.same b o1 h1 hbp).1⟩
theorem evA_seq0 {β : Type} {f : AF} {k : List D → Env → Option (Rs β)} {KK : β → Env → Hid → Hp → Prop} {σ : L2.St} {A A0 : Hid} {H H0 : Hp} {env env0 : Env} (R : Rep G A σ H env) (F0 : Fr (Own σ env0) A0 H0 (Own σ env) A H) (p : Post G XR W σ A0 H0 env0 KK (bd (f env) k)) :
    tEvA G XR W f σ H (fun x H1 => ∃ A1 env1 d1, Rep G A1 σ H1 env1 ∧ RepDs G A1 H1 d1 x ∧ Fr (Own σ env) A H (Own σ env1) A1 H1 ∧ Post G XR W σ A0 H0 env0 KK (k d1 env1)) := by
  refine ⟨A, env, R, ?_⟩
  cases hf : f env with
  | none =>
    rw [hf] at p
    exact p
  | some r =>
    rw [hf] at p
    cases r with
    | ok o e1 => exact fun A1 H1 R1 F1 v ov => ⟨A1, e1, o, R1, ov, F1, p⟩
    | ex x e1 => exact fun A1 H1 c d R1 F1 xr => p A1 H1 c d R1 (F0.trans F1) xr
/-! ### keywords -/
def pick {α : Type} (pm : List Nat) (l : List α) : List α := pm.filterMap fun i => l[i]?
/-- f(e, .., k = v, ..): pm picks the parameters' values out of the positional ones, the keywords', the defaults -/
def cCallK (n np m : Nat) (Φ : List D → Option RR) (pm : List Nat) (dd : List D) (a kw : AF) : EF := fun env => bd (a env) fun ds e => bd (kw e) fun zs e2 =>
  if ds.length = np ∧ zs.length = m ∧ (pick pm (ds ++ zs ++ dd)).length = n then callK (Φ (pick pm (ds ++ zs ++ dd))) e2 else none
def KwB (K : PySem.W.Frag) (fd : FuncData) (ps ks : List Str) (np m : Nat) (pm : List Nat) (dv : List Value) : Prop :=
  ∀ (s : Shared) (us ws : List Value), K.In s.heap → us.length = np → ws.length = m → BindsTo s fd ⟨us, ks.zip ws⟩ (ps.zip (pick pm (us ++ ws ++ dv)))
section
variable {k : Nat} {f : Addr} {fd : FuncData} {ps ks : List Str} {sp : Sp} {x : Str} {p pos : Pos} {e : Expr} {es : List Expr} {kws : List Keyword} {t tk : TA} {np m n : Nat} {pm : List Nat} {dv : List Value} {dvs : List V} {dd : List D} {Φ : List D → Option RR} {a kw : AF}
end

/-! ### methods of an own list -/
def methK (i : Nat) (r : Option (RV × D)) (e : Env) : Option (Rs Out) := match r with
  | some (rv, d) => some (.ok rv.out (e.set i (some (.own d))))
  | none => none
def cMeth (F : List D → List D → Option (D × List D)) (i : Nat) (a : AF) : EF := fun env => match ownAt env i with
  | some (.lst _) => bd (a env) fun ds e => match ownAt e i with
    | some (.lst l) => match F l ds with
      | some (r, l') => some (.ok (.dat r) (e.set i (some (.own (.lst l')))))
      | none => none
    | _ => none
  | _ => none
/-- what a method makes of a list and of its arguments -/
def MtOk (G : Tb) (r : V → List V → Hp → VK → Prop) (F : List D → List D → Option (D × List D)) : Prop := ∀ (l ds : List D) (d : D) (l' : List D) (A : Hid) (H : Hp) (p : Addr) (vs xs : List V) (Q : VK), F l ds = some (d, l') → TupOk A H → A p → H p = some (.lst vs) → RepDs G A H l vs → RepDs G A H ds xs →
  (∀ v ws, RepD G A H d v → RepDs G A H l' ws → Q v (upd H p (.lst ws))) → r (.ref p) xs H Q
theorem ExtBut.lst {A : Hid} {H : Hp} (t : TupOk A H) {p : Addr} (a : A p) (ws : List V) : ExtBut p A H A (upd H p (.lst ws)) := by
  refine ⟨fun b o h n => ⟨by rw [upd_ne n]; exact h, Iff.rfl⟩, fun q hq => ?_, a⟩
  by_cases e : q = p
  · subst e
    exact ⟨_, upd_same, (fun _ z => by cases z), (fun _ _ z => by cases z)⟩
  · obtain ⟨o, e1, r⟩ := t q hq
    exact ⟨o, by rw [upd_ne e]; exact e1, r⟩
theorem meth_post {r : V → List V → Hp → VK → Prop} {F : List D → List D → Option (D × List D)} (hF : MtOk G r F) {i : Nat} {σ : L2.St} {A A0 : Hid} {H H0 : Hp} {e env0 : Env} {ds : List D} {xs : List V} {p : Addr} {Q : VK} (R : Rep G A σ H e) (F0 : Fr (Own σ env0) A0 H0 (Own σ e) A H) (es : σ[i]? = some (some (.ref p))) (k : RepDs G A H ds xs)
    (po : Post G XR W σ A0 H0 env0 (fun o e A' H' => ∀ v, OutOk G H0 A' σ H' e o v → Q v H') (match ownAt e i with
    | some (.lst l) => match F l ds with
      | some (r, l') => some (.ok (.dat r) (e.set i (some (.own (.lst l')))))
      | none => none
    | _ => none)) : r (.ref p) xs H Q := by
  split at po
  · rename_i l h1
    have h1 := ownAt_eq h1
    obtain ⟨v, e2, q', e3, a3, vs, hp, rl⟩ := R.cell i _ h1
    rw [es] at e2
    cases e2
    cases e3
    split at po
    · rename_i d l' hf
      refine hF l ds d l' A H p vs xs Q hf R.tup a3 hp rl k fun v ws rd rw' => ?_
      have ex := ExtBut.lst R.tup a3 ws
      have st := ex.stab a3
      obtain ⟨R2, F2⟩ := R.setTop h1 es ex (d' := .lst l') ⟨ws, upd_same, RepDs.mono st R.tup _ _ rw'⟩
      exact po A _ R2 (F0.trans F2) v (RepD.mono st R.tup _ _ rd)
    · exact po.elim
  · exact po.elim
section
variable {id : String} {name : Str} {r : V → List V → Hp → VK → Prop} {F : List D → List D → Option (D × List D)} {o e : Expr} {es : List Expr} {apos cpos : Pos} {i : Nat} {a : AF}
theorem ev_meth (slot : Slot "list" name id) (hty : typeOf (.builtin id) = pure (.type "method_descriptor")) (hm : MtR X id r) (hF : MtOk G r F) (hk : X.K = G.K) (ho : PE X o (tVar i)) (ha : PA X (e :: es) (tEvA G XR W a)) (hbase : attributeBase o name X.env (eval o X.env) = eval o X.env := by rfl)
    (hfew : ((backTo cpos (starEach (e :: es) X.env)).all (fun x => !x.1) && (backToKw cpos (keywordEach [] X.env)).all (fun x => x.1.isSome)
      && decide ((e :: es).length + ([] : List Keyword).length + (if ([] : List Keyword).isEmpty then 0 else 1) < 30)) = true := by rfl)
    (hline : (apos.endLine == cpos.line) = true := by rfl) (hs : starEach (e :: es) X.env = (false, eval e X.env) :: starEach es X.env := by rfl) (hplain : (backTo cpos (starEach es X.env)).any (·.1) = false := by rfl) :
    PE X (.Call (.Attribute o name apos) (e :: es) [] cpos) (tEv G XR W (cMeth F i a)) := PE_imp (pe_bm PySem.F.plainAttrs_list slot hty hm ho ha hbase hfew hline hs hplain) fun σ H Q ⟨A, env, R, p⟩ => by
  unfold cMeth at p
  split at p
  · rename_i l0 h0
    obtain ⟨v, e0, q, e1, _, vs, hp, _⟩ := R.cell i _ (ownAt_eq h0)
    subst e1
    refine ⟨_, e0, .inl ⟨rfl, _, SqL.of hp⟩, (evA_seq0 R (Fr.refl _ _ _) p).imp fun xs H1 ⟨A1, e1, ds, R1, k1, F1, p1⟩ => ?_⟩
    exact meth_post hF R1 F1 e0 k1 p1
  · exact p.elim
end
def fAppend (l ds : List D) : Option (D × List D) := match ds with
  | [d] => if szOk l.length = true then some (.non, l ++ [d]) else none
  | _ => none
theorem szOk.lt {n : Nat} (h : szOk n = true) : n < sizeLine := Nat.lt_of_le_of_lt (of_decide_eq_true h) (by decide)
theorem non_rep {A : Hid} {H : Hp} : RepD G A H .non .non := by
  unfold RepD
  rfl
theorem mo_append : MtOk G rAppend fAppend := fun l ds d l' A H p vs xs Q hf t a hp rl k q => by
  unfold fAppend at hf
  split at hf
  · split at hf
    · rename_i hz
      cases hf
      obtain ⟨v, r, rfl, h1, h2⟩ := k.inv
      obtain rfl := h2.inv0
      exact ⟨p, vs, v, rfl, rfl, hp, by rw [← rl.length]; exact szOk.lt hz, q _ _ non_rep (rl.append (.cons h1 .nil))⟩
    · cases hf
  · cases hf
def fPop (l ds : List D) : Option (D × List D) := match ds with
  | [] => match l[l.length - 1]? with
    | some d => some (d, l.dropLast)
    | none => none
  | _ => none
theorem RepDs.dropLast {A : Hid} {H : Hp} {ds : List D} {vs : List V} (h : RepDs G A H ds vs) : RepDs G A H ds.dropLast vs.dropLast := by
  rw [List.dropLast_eq_take, List.dropLast_eq_take, ← h.length]
  exact h.take _
def fPopAt (l ds : List D) : Option (D × List D) := match ds with
  | [.int i] => if small62 i = true then match ixN l.length i with
    | some k => match l[k]? with
      | some d => some (d, l.eraseIdx k)
      | none => none
    | none => none else none
  | _ => none
theorem mo_popAt : MtOk G rPopAt fPopAt := fun l ds d l' A H p vs xs Q hf t a hp rl k q => by
  unfold fPopAt at hf
  split at hf
  · rename_i i
    split at hf
    · rename_i hz
      split at hf
      · rename_i j hj
        split at hf
        · rename_i d0 e0
          cases hf
          obtain ⟨x, r, rfl, h1, h2⟩ := k.inv
          obtain rfl := h2.inv0
          obtain ⟨v, e1, rv⟩ := rl.get e0
          have z := small62.ok hz
          rw [rl.length] at hj
          exact ⟨p, vs, i, j, v, rfl, by rw [int_of h1], hp, by omega, by omega, (ixN_seq hj).1, e1, q _ _ rv (rl.eraseIdx j)⟩
        · cases hf
      · cases hf
    · cases hf
  · cases hf
def fExtend (l ds : List D) : Option (D × List D) := match ds with
  | [.lst m] => if szOk (l.length + m.length) = true then some (.non, l ++ m) else none
  | _ => none
end
end Tk
/-! Tk6: list comprehensions, item stores. -/
namespace Tk
open PySem PySem.Spec PyProof.Rows L2

theorem bd_eq_ok {α β : Type} {r : Option (Rs α)} {k : α → Env → Option (Rs β)} {b : β} {e : Env} (h : bd r k = some (.ok b e)) : ∃ a e', r = some (.ok a e') ∧ k a e' = some (.ok b e) := by
  cases r with
  | none => cases h
  | some q =>
    cases q with
    | ok a e' => exact ⟨a, e', rfl, h⟩
    | ex x e' => cases h

def wipeE (e : Env) : List Nat → Env
  | [] => e
  | v :: vs => (wipeE e vs).set v none
def unwipe (e0 e : Env) : List Nat → Env
  | [] => e
  | v :: vs => (unwipe e0 e vs).set v (match (e0[v]? : Option (Option Cell)) with
    | some c => c
    | none => none)
theorem wipeE_length (e : Env) : ∀ vs, (wipeE e vs).length = e.length
  | [] => rfl
  | v :: vs => by
    unfold wipeE
    rw [List.length_set, wipeE_length e vs]
theorem unwipe_length (e0 e : Env) : ∀ vs, (unwipe e0 e vs).length = e.length
  | [] => rfl
  | v :: vs => by
    unfold unwipe
    rw [List.length_set, unwipe_length e0 e vs]
theorem wipeE_get {e : Env} {j : Nat} {c : Cell} : ∀ {vs : List Nat}, (wipeE e vs)[j]? = some (some c) → j ∉ vs ∧ e[j]? = some (some c)
  | [], h => ⟨by simp, h⟩
  | v :: vs, h => by
    unfold wipeE at h
    by_cases hj : v = j
    · subst hj
      by_cases hl : v < (wipeE e vs).length
      · rw [List.getElem?_set_self hl] at h
        cases h
      · rw [List.getElem?_eq_none (by rw [List.length_set]; exact Nat.le_of_not_lt hl)] at h
        cases h
    · rw [List.getElem?_set_ne hj] at h
      obtain ⟨n, q⟩ := wipeE_get h
      exact ⟨by simp [Ne.symm hj, n], q⟩
theorem wipe_get {σ : L2.St} {j : Nat} : ∀ {vs : List Nat}, j ∉ vs → (wipe σ vs)[j]? = σ[j]?
  | [], _ => rfl
  | v :: vs, h => by
    unfold wipe
    rw [List.getElem?_set_ne (fun z => h (by simp [z]))]
    exact wipe_get fun z => h (List.mem_cons_of_mem _ z)
theorem wipe_in {σ : L2.St} {j : Nat} {v : V} : ∀ {vs : List Nat}, (wipe σ vs)[j]? = some (some v) → j ∉ vs ∧ σ[j]? = some (some v) := fun {vs} h => by
  obtain ⟨a, b⟩ := wipe_some h
  exact ⟨b, a⟩
theorem unwipe_in {e0 e : Env} {j : Nat} (hl : e.length = e0.length) : ∀ {vs : List Nat}, j ∈ vs → (unwipe e0 e vs)[j]? = e0[j]?
  | [], h => by cases h
  | v :: vs, h => by
    unfold unwipe
    by_cases hj : v = j
    · subst hj
      by_cases hv : v < e0.length
      · rw [List.getElem?_set_self (by rw [unwipe_length, hl]; exact hv), List.getElem?_eq_getElem hv]
      · rw [List.getElem?_eq_none (by rw [List.length_set, unwipe_length, hl]; exact Nat.le_of_not_lt hv), List.getElem?_eq_none (Nat.le_of_not_lt hv)]
    · rw [List.getElem?_set_ne hj]
      rcases List.mem_cons.mp h with z | z
      · exact absurd z.symm hj
      · exact unwipe_in hl z
theorem unwipe_out {e0 e : Env} {j : Nat} : ∀ {vs : List Nat}, j ∉ vs → (unwipe e0 e vs)[j]? = e[j]?
  | [], _ => rfl
  | v :: vs, h => by
    unfold unwipe
    rw [List.getElem?_set_ne (fun z => h (by simp [z]))]
    exact unwipe_out fun z => h (List.mem_cons_of_mem _ z)

def compG (vs : List Nat) (g : GF) (t : TF) (f : UF) : List D → List D → Env → Option (Rs (List D))
  | [], acc, env => some (.ok acc env)
  | d :: ds, acc, env => bd (g d env) fun _ e1 => if e1.length = env.length then bd (t e1) fun b e2 => if b = true then bd (f e2) fun y e3 =>
      if szOk acc.length = true then compG vs g t f ds (acc ++ [y]) (wipeE e3 vs) else none else compG vs g t f ds acc (wipeE e2 vs) else none
def lcK (vs : List Nat) (g : GF) (t : TF) (f : UF) (ds : List D) (e : Env) : Option (Rs Out) := match compG vs g t f ds [] (wipeE e vs) with
  | some (.ok acc e2) => if e2.length = e.length then some (.ok (.fresh (.lst acc)) (unwipe e e2 vs)) else none
  | _ => none
def cLc (it : AF) (vs : List Nat) (g : GF) (t : TF) (f : UF) : EF := fun env => bd (it env) (lcK vs g t f)

section
variable {G : Tb} {XR : XW} {W : WX} {X : Cx}

theorem Rep.wipe {σ : L2.St} {A : Hid} {H : Hp} {e : Env} (R : Rep G A σ H e) (vs : List Nat) : Rep G A (L2.wipe σ vs) H (wipeE e vs) ∧ ∀ q, Own (L2.wipe σ vs) (wipeE e vs) q → Own σ e q := by
  refine ⟨⟨by rw [wipeE_length, wipe_length]; exact R.len, R.tup, fun j c k => ?_, fun i j d1 d2 v k1 k2 k3 k4 => ?_⟩, fun q ⟨j, d, k1, k2⟩ => ?_⟩
  · obtain ⟨n, q⟩ := wipeE_get k
    rw [wipe_get n]
    exact R.cell j c q
  · exact R.inj i j d1 d2 v (wipeE_get k1).2 (wipeE_get k2).2 (wipe_in k3).2 (wipe_in k4).2
  · exact ⟨j, d, (wipeE_get k1).2, (wipe_in k2).2⟩

theorem st_ext {σ σ' : L2.St} (hl : σ.length = σ'.length) (h : ∀ i, i < σ.length → σ[i]? = σ'[i]?) : σ = σ' := by
  apply List.ext_getElem? 
  intro i
  by_cases hi : i < σ.length
  · exact h i hi
  · rw [List.getElem?_eq_none (Nat.le_of_not_lt hi), List.getElem?_eq_none (by omega)]
theorem wipe_at {σ : L2.St} {j : Nat} : ∀ {vs : List Nat}, j ∈ vs → j < σ.length → (wipe σ vs)[j]? = some none
  | [], h, _ => by cases h
  | v :: vs, h, hl => by
    unfold L2.wipe
    by_cases hj : v = j
    · subst hj
      rw [List.getElem?_set_self (by rw [wipe_length]; exact hl)]
    · rw [List.getElem?_set_ne hj]
      rcases List.mem_cons.mp h with z | z
      · exact absurd z.symm hj
      · exact wipe_at z hl
theorem wipe_back {σ σ' : L2.St} {vs fx : List Nat} (hl : σ'.length = σ.length) (hf : ∀ j, j < σ.length → j ∉ vs → j ∈ fx) (k : Keep fx (wipe σ vs) σ') : wipe σ' vs = wipe σ vs := by
  refine st_ext (by rw [wipe_length, wipe_length, hl]) fun i hi => ?_
  rw [wipe_length] at hi
  by_cases hv : i ∈ vs
  · rw [wipe_at hv hi, wipe_at hv (by omega)]
  · rw [wipe_get hv, k i (hf i (by omega) hv)]

/-- back from the block -/
theorem unwipe_ok {σ : L2.St} {vs : List Nat} {A1 A : Hid} {H1 H : Hp} {e0 e : Env} (R1 : Rep G A1 σ H1 e0) (R : Rep G A (L2.wipe σ vs) H e) (hl : e.length = e0.length) (F : Fr (Own (L2.wipe σ vs) (wipeE e0 vs)) A1 H1 (Own (L2.wipe σ vs) e) A H) :
    Rep G A σ H (unwipe e0 e vs) ∧ Fr (Own σ e0) A1 H1 (Own σ (unwipe e0 e vs)) A H := by
  have sub : ∀ q, Own (L2.wipe σ vs) (wipeE e0 vs) q → Own σ e0 q := (R1.wipe vs).2
  have st : Stab A1 H1 A H := F.stab fun p q => R1.own_hid (sub p q)
  have inE : ∀ (j : Nat) (c : Cell), (unwipe e0 e vs)[j]? = some (some c) → (j ∈ vs ∧ e0[j]? = some (some c)) ∨ (j ∉ vs ∧ e[j]? = some (some c)) := fun j c k => by
    by_cases hj : j ∈ vs
    · rw [unwipe_in hl hj] at k
      exact .inl ⟨hj, k⟩
    · rw [unwipe_out hj] at k
      exact .inr ⟨hj, k⟩
  -- an own thing of a wiped slot is no own thing of the block
  have no : ∀ (j : Nat) (d : D) (p : Addr), j ∈ vs → e0[j]? = some (some (.own d)) → σ[j]? = some (some (.ref p)) → ¬ Own (L2.wipe σ vs) (wipeE e0 vs) p := fun j d p hj h1 h2 ⟨i, d', k1, k2⟩ => by
    obtain ⟨n1, m1⟩ := wipeE_get k1
    obtain ⟨_, m2⟩ := wipe_in k2
    exact n1 (R1.inj j i d d' _ h1 m1 h2 m2 ▸ hj)
  refine ⟨⟨?_, R.tup, fun j c k => ?_, fun i j d1 d2 v k1 k2 k3 k4 => ?_⟩, ⟨fun a o h n => F.keep a o h fun z => n (sub a z), fun p ⟨j, d, k1, k2⟩ => ?_, F.dom⟩⟩
  · rw [unwipe_length, hl]
    exact R1.len
  · rcases inE j c k with ⟨hj, q⟩ | ⟨hj, q⟩
    · obtain ⟨v, e1, c1⟩ := R1.cell j c q
      refine ⟨v, e1, ?_⟩
      cases c with
      | dat d => exact RepD.mono st R1.tup d v c1
      | exc y => exact CellOk.exc_mono st R1.tup c1
      | own d =>
        obtain ⟨p, rfl, a1, t1⟩ := c1
        obtain ⟨o, eo, _⟩ := R1.tup p a1
        have nn := no j d p hj q e1
        exact ⟨p, rfl, (F.keep p o eo nn).2.mpr a1, t1.mono st R1.tup fun o' z => (F.keep p o' z nn).1⟩
    · obtain ⟨v, e1, c1⟩ := R.cell j c q
      rw [wipe_get hj] at e1
      exact ⟨v, e1, c1⟩
  · have mix : ∀ (i j : Nat) (d1 d2 : D) (v : V), i ∈ vs → e0[i]? = some (some (.own d1)) → j ∉ vs → e[j]? = some (some (.own d2)) → σ[i]? = some (some v) → σ[j]? = some (some v) → False := fun i j d1 d2 v hi h1 hj h2 h3 h4 => by
      obtain ⟨v', e1, p, rfl, a1, t1⟩ := R1.cell i _ h1
      rw [h3] at e1
      cases e1
      rcases F.own p ⟨j, d2, h2, by rw [wipe_get hj]; exact h4⟩ with z | z
      · exact no i d1 p hi h1 h3 z
      · obtain ⟨o, eo, _⟩ := R1.tup p a1
        rw [eo] at z
        cases z
    rcases inE i _ k1 with ⟨hi, q1⟩ | ⟨hi, q1⟩ <;> rcases inE j _ k2 with ⟨hj, q2⟩ | ⟨hj, q2⟩
    · exact R1.inj i j d1 d2 v q1 q2 k3 k4
    · exact (mix i j d1 d2 v hi q1 hj q2 k3 k4).elim
    · exact (mix j i d2 d1 v hj q2 hi q1 k4 k3).elim
    · exact R.inj i j d1 d2 v q1 q2 (by rw [wipe_get hi]; exact k3) (by rw [wipe_get hj]; exact k4)
  · rcases inE j _ k1 with ⟨hj, q1⟩ | ⟨hj, q1⟩
    · exact .inl ⟨j, d, q1, k2⟩
    · rcases F.own p ⟨j, d, q1, by rw [wipe_get hj]; exact k2⟩ with z | z
      · exact .inl (sub p z)
      · exact .inr z

abbrev W0 : WX := fun _ _ _ _ => False
theorem lc_ok {vs fx : List Nat} {g : GF} {t : TF} {f : UF} {σ : L2.St} {Q : VK} {J : It} {A1 : Hid} {H1 : Hp} {e1 : Env} {ds : List D} {acc : List D} {e2 : Env} (hfx : ∀ j, j < σ.length → j ∉ vs → j ∈ fx) (R1 : Rep G A1 σ H1 e1) (ij : ItOk G J A1 H1 ds) (hc : compG vs g t f ds [] (wipeE e1 vs) = some (.ok acc e2)) (hl : e2.length = e1.length)
    (q : ∀ A' H' v, Rep G A' σ H' (unwipe e1 e2 vs) → Fr (Own σ e1) A1 H1 (Own σ (unwipe e1 e2 vs)) A' H' → OutOk G H1 A' σ H' (unwipe e1 e2 vs) (.fresh (.lst acc)) v → Q v H') (D : Addr) (hD : H1 D = none) :
    ∃ W : Nat → Nat → Hp → Prop, (∃ m, W 0 m (upd H1 D (.lst []))) ∧ ∀ i m H, W i m H → (J.stop i H ∧ Q (.ref D) H) ∨ (J.go i H ∧ ∃ Nx : Hp → Prop, (∀ H', Nx H' → ∃ m', m' < m ∧ W (i + 1) m' H') ∧
      ∀ x H', J.yld i H x H' → tEvG G XR W0 fx g x (L2.wipe σ vs) H' fun σ2 H2 => L2.wipe σ2 vs = L2.wipe σ vs ∧ tEvT G XR W0 t σ2 H2 fun b H3 =>
        if b = true then tEvU G XR W0 f σ2 H3 fun y H4 => ∃ acc, H4 D = some (.lst acc) ∧ acc.length < sizeLine ∧ Nx (upd H4 D (.lst (acc ++ [y]))) else Nx H3) := by
  obtain ⟨Rw, subw⟩ := R1.wipe vs
  let St := fun (H : Hp) (rest : List Tk.D) => ∃ (A : Hid) (env : Env) (a : List Tk.D) (av : List V), Rep G A (L2.wipe σ vs) H env ∧ Stab A1 H1 A H ∧ Fr (Own (L2.wipe σ vs) (wipeE e1 vs)) A1 H1 (Own (L2.wipe σ vs) env) A H ∧ A D ∧ H D = some (.lst av) ∧ RepDs G A H a av ∧ ¬ Own (L2.wipe σ vs) env D ∧ env.length = e1.length ∧
    compG vs g t f rest a env = some (.ok acc e2)
  refine ⟨fun i m H => i ≤ ds.length ∧ m = ds.length - i ∧ St H (ds.drop i), ⟨_, Nat.zero_le _, rfl, ?_⟩, ?_⟩
  · have ex := Ext.newLst Rw.tup hD []
    refine ⟨_, wipeE e1 vs, [], [], ex.rep Rw, ex.stab, ex.fr _, .inr rfl, upd_same, .nil, fun z => ?_, wipeE_length _ _, hc⟩
    obtain ⟨o, eo⟩ := Rw.own_some z
    rw [hD] at eo
    cases eo
  · rintro i m H ⟨hi, rfl, A, env, a, av, R, s, F, aD, hDv, ra, nD, le, hcomp⟩
    obtain ⟨turn, stop⟩ := ij A H R.tup s
    by_cases hlt : i < ds.length
    · have ed : ds.drop i = ds[i] :: ds.drop (i + 1) := List.drop_eq_getElem_cons hlt
      rw [ed] at hcomp
      obtain ⟨go, yl⟩ := turn i ds[i] (List.getElem?_eq_getElem hlt)
      refine .inr ⟨go, fun H' => St H' (ds.drop (i + 1)), fun H' h => ⟨ds.length - (i + 1), by omega, hlt, rfl, h⟩, fun x H' y => ?_⟩
      obtain ⟨ex, rd⟩ := yl x H' y
      have R' := ex.rep R
      have F' : Fr (Own (L2.wipe σ vs) (wipeE e1 vs)) A1 H1 (Own (L2.wipe σ vs) env) A H' := F.trans (ex.fr _)
      have hD' := (ex.same D _ hDv).1
      have ra' := RepDs.mono ex.stab R.tup _ _ ra
      unfold compG at hcomp
      obtain ⟨_, eg, hg, hcomp⟩ := bd_eq_ok hcomp
      split at hcomp
      · rename_i hlen
        obtain ⟨b, et, ht, hcomp⟩ := bd_eq_ok hcomp
        refine ⟨A, env, ds[i], R', rd, ?_⟩
        rw [hg]
        intro σ2 A2 H2 R2 K2 F2
        have hs2 : σ2.length = σ.length := by
          rw [← R2.len, hlen, le, R1.len]
        have hw : L2.wipe σ2 vs = L2.wipe σ vs := wipe_back hs2 hfx K2
        refine ⟨hw, A2, eg, R2, ?_⟩
        rw [ht]
        intro A3 H3 R3 F3
        -- the new list through the block
        have F23 := F2.trans F3
        have k3 := F23.keep D _ hD' nD
        have n3 : ¬ Own σ2 et D := fun z => by
          rcases F23.own D z with w | w
          · exact nD w
          · rw [hD'] at w
            cases w
        have st3 : Stab A H' A3 H3 := F23.stab fun p q => R'.own_hid q
        have ra3 := RepDs.mono st3 R'.tup _ _ ra'
        have fin : ∀ {A4 : Hid} {H4 : Hp} {e4 : Env} {a4 : List Tk.D} {av4 : List V}, Rep G A4 σ2 H4 e4 → Fr (Own (L2.wipe σ vs) (wipeE e1 vs)) A1 H1 (Own σ2 e4) A4 H4 → A4 D → H4 D = some (.lst av4) → RepDs G A4 H4 a4 av4 → ¬ Own σ2 e4 D → e4.length = e1.length →
            compG vs g t f (ds.drop (i + 1)) a4 (wipeE e4 vs) = some (.ok acc e2) → St H4 (ds.drop (i + 1)) := by
          intro A4 H4 e4 a4 av4 R4 F4 aD4 hD4 ra4 n4 l4 hcomp4
          obtain ⟨Rw4, sub4⟩ := R4.wipe vs
          rw [hw] at Rw4 sub4
          exact ⟨A4, wipeE e4 vs, a4, av4, Rw4, F4.stab (fun p q => R1.own_hid (subw p q)), F4.less fun q z => .inl (sub4 q z), aD4, hD4, ra4, fun z => n4 (sub4 D z), by rw [wipeE_length]; exact l4, hcomp4⟩
        have le3 : et.length = e1.length := by
          rw [R3.len, hs2, ← R1.len]
        cases b with
        | false => exact fin R3 (F'.trans F23) (k3.2.mpr aD) k3.1 ra3 n3 le3 hcomp
        | true =>
          rw [if_pos rfl] at hcomp
          dsimp only
          rw [if_pos rfl]
          obtain ⟨y, ef, hf, hcomp⟩ := bd_eq_ok hcomp
          split at hcomp
          · rename_i hz
            refine ⟨A3, et, R3, ?_⟩
            rw [hf]
            intro A4 H4 R4 F4 v rv
            have k4 := F4.keep D _ k3.1 n3
            have n4 : ¬ Own σ2 ef D := fun z => by
              rcases F4.own D z with w | w
              · exact n3 w
              · rw [k3.1] at w
                cases w
            have st4 : Stab A3 H3 A4 H4 := F4.stab fun p q => R3.own_hid q
            have ra4 := RepDs.mono st4 R3.tup _ _ ra3
            have aD4 : A4 D := k4.2.mpr (k3.2.mpr aD)
            refine ⟨av, k4.1, by rw [← ra.length]; exact szOk.lt hz, ?_⟩
            have ex4 := ExtBut.lst R4.tup aD4 (av ++ [v])
            have st5 := ex4.stab aD4
            obtain ⟨R5, F5⟩ := R4.butTop (F'.trans (F23.trans F4)) aD4 n4 hD ex4 ⟨_, upd_same⟩
            refine fin R5 F5 aD4 upd_same (RepDs.mono st5 R4.tup _ _ (ra4.append (.cons rv .nil))) n4 ?_ hcomp
            rw [R4.len, hs2, ← R1.len]
          · cases hcomp
      · cases hcomp
    · have hn : i = ds.length := by omega
      subst hn
      rw [List.drop_length] at hcomp
      cases hcomp
      refine .inl ⟨stop, ?_⟩
      obtain ⟨R9, F9⟩ := unwipe_ok R1 R hl F
      refine q A H (.ref D) R9 F9 ⟨D, rfl, hD, aD, fun z => ?_, av, hDv, ra⟩
      rcases F9.own D z with w | w
      · obtain ⟨o, eo⟩ := R1.own_some w
        rw [hD] at eo
        cases eo
      · -- not own: D came behind H1
        obtain ⟨j, d, k1, k2⟩ := z
        by_cases hj : j ∈ vs
        · rw [unwipe_in hl hj] at k1
          obtain ⟨o, eo⟩ := R1.own_some ⟨j, d, k1, k2⟩
          rw [hD] at eo
          cases eo
        · rw [unwipe_out hj] at k1
          exact nD ⟨j, d, k1, by rw [wipe_get hj]; exact k2⟩

theorem lc_use {it : AF} {vs fx : List Nat} {g : GF} {t : TF} {f : UF} {N : Nat} (hfx : ∀ j, j < N → j ∉ vs → j ∈ fx) {σ : L2.St} (hN : σ.length = N) {H : Hp} {Q : VK} (h : tEv G XR W (cLc it vs g t f) σ H Q) :
    tLc (tEvI G XR W it) (tEvG G XR W0 fx g) (tEvT G XR W0 t) (tEvU G XR W0 f) vs σ H Q := by
  obtain ⟨A, env, R, p⟩ := h
  refine ⟨A, env, R, ?_⟩
  unfold cLc at p
  cases hi : it env with
  | none =>
    rw [hi] at p
    exact p
  | some r =>
    rw [hi] at p
    cases r with
    | ex x e1 => exact p
    | ok ds e1 =>
      intro A1 H1 R1 F1 J ij D hD
      rw [bd_ok] at p
      unfold lcK at p
      split at p
      · rename_i acc e2 hc
        split at p
        · rename_i hl
          exact lc_ok (by rw [hN]; exact hfx) R1 ij hc hl (fun A' H' v R' F' ok => p A' H' R' (F1.trans F') v (ok.base fun q h => F1.none h)) D hD
        · exact p.elim
      · exact p.elim
end
end Tk
/-! Tk7: comprehensions as expressions, item stores, operations on data. -/
namespace Tk
open PySem PySem.Spec PyProof.Rows L2

section
variable {G : Tb} {XR : XW} {W : WX} {X : Cx}

/-! ### comprehensions -/
def tYesF : TF := fun env => some (.ok true env)
theorem PTs_imp {X : Cx} {e : List Expr} {t t' : TT} (h : PTs X e t) (i : ∀ σ H Q, t' σ H Q → t σ H Q) : PTs X e t' := ⟨fun pins s σ H Q I q => h.run pins s σ H Q I (i σ H Q q)⟩
theorem ets_nil : PTs X [] (tEvT G XR W tYesF) := PTs_imp pts_nil fun σ H Q ⟨A, env, R, p⟩ => p A H R (Fr.refl _ _ _)
section
variable {elt tg iter : Expr} {ifs : List Expr} {scope : Scope} {own : List (Str × Nat)} {pos : Pos} {it : AF} {g : GF} {t : TF} {f : EF} {fx fb : List Nat}
theorem ev_lc (hc : X.calm = true) (hN : X.N.Nodup) (hi : PI X tg iter (tEvI G XR W it)) (ok : BlkOk X.N X.env.scope scope own)
    (hg : ∀ (s : Shared) (H : Hp) (C : Addr) (cl : List (Str × Addr)) (fp : List Addr), PG (X.blk s H scope (compEnvC scope cl C X.env) fp) tg (tEvG G XR W0 fb g))
    (ht : ∀ (s : Shared) (H : Hp) (C : Addr) (cl : List (Str × Addr)) (fp : List Addr), PTs (X.blk s H scope (compEnvC scope cl C X.env) fp) ifs (tEvT G XR W0 t))
    (he : ∀ (s : Shared) (H : Hp) (C : Addr) (cl : List (Str × Addr)) (fp : List Addr), PE (X.blk s H scope (compEnvC scope cl C X.env) fp) elt (tEv G XR W0 f))
    (hfx : ∀ j, j < X.N.length → j ∉ own.map (·.2) → j ∈ fb) (hs : ∀ x, foldedSetIterable iter X.env x = pure x := by intro _; rfl) :
    PE X (.ListComp elt [⟨tg, iter, ifs, 0⟩] scope pos) (tEv G XR W (cLc it (own.map (·.2)) g t (cUse f))) :=
  ⟨fun pins s σ H Q I q => (pe_lc hc hN hi ok hg ht (fun s H C cl fp => ev_use (he s H C cl fp)) hs).run pins s σ H Q I (lc_use hfx I.len q)⟩
theorem set_seq {i : Nat} {f : EF} {D : Ends} {σ : L2.St} {A : Hid} {H : Hp} {env : Env} (R : Rep G A σ H env) (p : PostS G XR W fx D σ A H env (sSet fx i f env)) : tEv G XR W f σ H fun x H1 => D.nx (σ.set i (some x)) H1 := by
  unfold sSet at p
  refine ⟨A, env, R, ?_⟩
  cases hf : f env with
  | none =>
    rw [hf] at p
    exact p
  | some r =>
    rw [hf] at p
    cases r with
    | ok o e1 => exact fun A1 H1 R1 F1 v ov => set_out R1 F1 ov p
    | ex x e1 => exact fun A1 H1 c d R1 F1 xr => p σ A1 H1 c d R1 (Keep.refl _ _) F1 xr
theorem es_setLc {i : Nat} {y : Str} {py spos : Pos} (hc : X.calm = true) (hN : X.N.Nodup) (hy : X.N[i]? = some y) (hyl : X.env.scope.names.lookup y = some .local) (hsw : swapsWith (.ListComp elt [⟨tg, iter, ifs, 0⟩] scope pos) (some (.Name y py)) spos.line X.env = pure true)
    (hi : PI X tg iter (tEvI G XR W it)) (ok : BlkOk X.N X.env.scope scope own)
    (hg : ∀ (s : Shared) (H : Hp) (C : Addr) (cl : List (Str × Addr)) (fp : List Addr), PG (X.blk s H scope (compEnvC scope cl C X.env) fp) tg (tEvG G XR W0 fb g))
    (ht : ∀ (s : Shared) (H : Hp) (C : Addr) (cl : List (Str × Addr)) (fp : List Addr), PTs (X.blk s H scope (compEnvC scope cl C X.env) fp) ifs (tEvT G XR W0 t))
    (he : ∀ (s : Shared) (H : Hp) (C : Addr) (cl : List (Str × Addr)) (fp : List Addr), PE (X.blk s H scope (compEnvC scope cl C X.env) fp) elt (tEv G XR W0 f))
    (hfx : ∀ j, j < X.N.length → j ∉ own.map (·.2) → j ∈ fb) (hs : ∀ x, foldedSetIterable iter X.env x = pure x := by intro _; rfl) :
    PS X (.Assign [.Name y py] (.ListComp elt [⟨tg, iter, ifs, 0⟩] scope pos) spos) (tEx G XR W fx (sSet fx i (cLc it (own.map (·.2)) g t (cUse f)))) :=
  ⟨fun pins s σ H D I ⟨A, env, R, p⟩ => (ps_setLc hc hN hy hyl hsw hi ok hg ht (fun s H C cl fp => ev_use (he s H C cl fp)) hs).run pins s σ H D I (lc_use hfx I.len (set_seq R p))⟩
end

/-! ### x[k] = value, x an own list -/
def gIx (i : Nat) (f : EF) : GF := fun d env => match ownAt env i with
  | some _ => bd (f env) fun o e => match ownAt e i, peek e o with
    | some (.lst l), some (.int k) => match ixN l.length k with
      | some j => some (.ok () (e.set i (some (.own (.lst (l.set j d))))))
      | none => none
    | _, _ => none
  | none => none
theorem eg_sub {o ix : Expr} {pos : Pos} {i : Nat} {f : EF} {fx : List Nat} (ho : PE X o (tVar i)) (hi : PE X ix (tEv G XR W f)) (ha : ∀ v, assign (.Subscript o ix pos) X.env v = (do
      let ov ← holding [v] (eval o X.env)
      let iv ← holding [v, ov] (eval ix X.env)
      standAt pos
      holding [v, ov, iv] (setItem ov iv v)
      release [v, ov, iv] []) := by intro _; rfl) : PG X (.Subscript o ix pos) (tEvG G XR W fx (gIx i f)) := PG_imp (pg_sub ho hi set_list ha) fun v σ H Q ⟨A, env, d, R, rd, p⟩ => by
  unfold gIx at p
  split at p
  · rename_i d0 h0
    obtain ⟨v0, e0, q, e1, _⟩ := R.cell i _ (ownAt_eq h0)
    subst e1
    refine ⟨_, e0, ?_⟩
    refine ⟨A, env, R, ?_⟩
    cases hf : f env with
    | none =>
      rw [hf] at p
      exact p
    | some r =>
      rw [hf] at p
      cases r with
      | ex x e1 => exact fun A1 H1 c d R1 F1 xr => p σ A1 H1 c d R1 (Keep.refl _ _) F1 xr
      | ok o1 e1 =>
        intro A1 H1 R1 F1 x ok
        rw [bd_ok] at p
        have rd1 := RepD.mono (F1.stab fun p q => R.own_hid q) R.tup _ _ rd
        split at p
        · rename_i l k h1 h2
          have h1 := ownAt_eq h1
          obtain ⟨v, e2, q', e3, a3, vs, hp, rl⟩ := R1.cell i _ h1
          rw [e0] at e2
          cases e2
          cases e3
          split at p
          · rename_i j hj
            have ek : x = .int k := by
              rcases peek_ok R1 ok h2 with z | ⟨_, _, _, z⟩
              · exact int_of z
              · exact z.elim
            rw [rl.length] at hj
            refine ⟨q, vs, k, j, rfl, ek, hp, hj, ?_⟩
            have ex := ExtBut.lst R1.tup a3 (vs.set j v)
            have st := ex.stab a3
            obtain ⟨R2, F2⟩ := R1.setTop h1 e0 ex (d' := .lst (l.set j d)) ⟨_, upd_same, RepDs.mono st R1.tup _ _ (RepDs.set rd1 j rl)⟩
            exact p σ A1 _ R2 (Keep.refl _ _) (F1.trans F2)
          · exact p.elim
        · exact p.elim
  · exact p.elim

theorem rep_int {A : Hid} {H : Hp} {i : Int} : RepD G A H (.int i) (.int i) := by unfold RepD; rfl
theorem rep_bl {A : Hid} {H : Hp} {i : Bool} : RepD G A H (.bl i) (.bl i) := by unfold RepD; rfl
theorem rep_str {A : Hid} {H : Hp} {i : Str} : RepD G A H (.str i) (.str i) := by unfold RepD; rfl
theorem rvI {H0 : Hp} {A : Hid} {H : Hp} {i : Int} : RvOk G H0 A H (.dat (.int i)) (.int i) := rep_int (G := G) (A := A) (H := H)
theorem rvB {H0 : Hp} {A : Hid} {H : Hp} {i : Bool} : RvOk G H0 A H (.dat (.bl i)) (.bl i) := rep_bl (G := G) (A := A) (H := H)
theorem rvS {H0 : Hp} {A : Hid} {H : Hp} {i : Str} : RvOk G H0 A H (.dat (.str i)) (.str i) := rep_str (G := G) (A := A) (H := H)
theorem t_int {A : Hid} {H : Hp} {i : Int} {x : V} (h : RepT G A H (.int i) x) : x = .int i := by
  rcases h with z | ⟨_, _, _, z⟩
  · exact int_of z
  · exact z.elim
theorem t_bl {A : Hid} {H : Hp} {i : Bool} {x : V} (h : RepT G A H (.bl i) x) : x = .bl i := bl_of h
theorem t_str {A : Hid} {H : Hp} {i : Str} {x : V} (h : RepT G A H (.str i) x) : x = .str i := by
  rcases h with z | ⟨_, _, _, z⟩
  · unfold RepD at z
    exact z
  · exact z.elim
theorem t_non {A : Hid} {H : Hp} {x : V} (h : RepT G A H .non x) : x = .non := by
  rcases h with z | ⟨_, _, _, z⟩
  · unfold RepD at z
    exact z
  · exact z.elim
theorem t_tupF {A : Hid} {H : Hp} {l : List D} {x : V} (h : RepT G A H (.tup l) x) : ∃ a vs, x = .ref a ∧ SqF G.K H a vs ∧ RepDs G A H l vs := by
  rcases h with h | ⟨p, _, _, h⟩
  · unfold RepD at h
    exact h
  · exact h.elim
theorem t_tup {A : Hid} {H : Hp} {l : List D} {x : V} (h : RepT G A H (.tup l) x) : ∃ a vs, x = .ref a ∧ SqT G.K H a vs ∧ RepDs G A H l vs := by
  obtain ⟨a, vs, e, s, r⟩ := t_tupF h
  exact ⟨a, vs, e, s.t, r⟩
theorem t_lst {A : Hid} {H : Hp} {l : List D} {x : V} (h : RepT G A H (.lst l) x) : ∃ a vs, x = .ref a ∧ H a = some (.lst vs) ∧ RepDs G A H l vs := by
  rcases h with z | ⟨p, e, _, vs, hp, r⟩
  · unfold RepD at z
    obtain ⟨a, vs, e, s, r⟩ := z
    exact ⟨a, vs, e, s.2, r⟩
  · exact ⟨p, vs, e, hp, r⟩
theorem t_scr {A : Hid} {H : Hp} {l : List Int} {x : V} (h : RepT G A H (.scr l) x) : ∃ a, x = .ref a ∧ SqL G.K H a (l.map V.int) := by
  rcases h with z | ⟨_, _, _, z⟩
  · unfold RepD at z
    obtain ⟨a, e, s⟩ := z
    exact ⟨a, e, s.sq⟩
  · exact z.elim

/-- ints: what a rule asks of them, what comes -/
def fII (c : Int → Int → Bool) (f : Int → Int → D) : D → D → Option RV
  | .int i, .int j => if c i j = true then some (.dat (f i j)) else none
  | _, _ => none
theorem o_ii {C : Int → Int → Prop} {g : Int → Int → V} {c : Int → Int → Bool} {f : Int → Int → D} (hc : ∀ i j, c i j = true → C i j) (hf : ∀ A H i j, RepD G A H (f i j) (g i j)) : Op2 G (rI C g) (fII c f) := fun d d' rv A H x y Q e t h1 h2 q => by
  cases d <;> cases d' <;> try (cases e; done)
  rename_i i j
  have e : (if c i j = true then some (RV.dat (f i j)) else none) = some rv := e
  split at e
  · rename_i hcc
    cases e
    exact ⟨i, j, t_int h1, t_int h2, hc i j hcc, q _ A H (Ext.refl t) (hf A H i j)⟩
  · cases e
def fII0 (f : Int → Int → D) : D → D → Option RV
  | .int i, .int j => some (.dat (f i j))
  | _, _ => none
theorem o_ii0 {g : Int → Int → V} {f : Int → Int → D} (hf : ∀ A H i j, RepD G A H (f i j) (g i j)) : Op2 G (rI0 g) (fII0 f) := fun d d' rv A H x y Q e t h1 h2 q => by
  cases d <;> cases d' <;> try (cases e; done)
  rename_i i j
  have e : some (RV.dat (f i j)) = some rv := e
  cases e
  exact ⟨i, j, t_int h1, t_int h2, q _ A H (Ext.refl t) (hf A H i j)⟩
abbrev fSub := fII0 fun i j => .int (i - j)
theorem o_sub : Op2 G (rI0 fun i j => .int (i - j)) fSub := o_ii0 fun _ _ _ _ => rep_int
def mulOk (i j : Int) : Bool := decide (i.natAbs < 2 ^ 4000) && decide (j.natAbs < 2 ^ 4000)
abbrev fMul := fII mulOk fun i j => .int (i * j)
theorem log2_lt_pow {n k : Nat} (h0 : 0 < k) (h : n < 2 ^ k) : n.log2 < k := by
  by_cases hn : n = 0
  · subst hn
    simpa using h0
  · exact (Nat.log2_lt hn).mpr h
theorem o_mul : Op2 G (rI CMulW fun i j => .int (i * j)) fMul := o_ii (fun i j h => by
  unfold mulOk at h
  rw [Bool.and_eq_true] at h
  have h1 := log2_lt_pow (by decide) (of_decide_eq_true h.1)
  have h2 := log2_lt_pow (by decide) (of_decide_eq_true h.2)
  show i.natAbs.log2 + j.natAbs.log2 < 1000000
  omega) fun _ _ _ _ => rep_int
def divOk (_ j : Int) : Bool := decide (0 < j) && decide (j.natAbs < 2 ^ 4000)
theorem divOk.ok {i j : Int} (h : divOk i j = true) : 0 < j ∧ j.natAbs.log2 < 9000 := by
  unfold divOk at h
  rw [Bool.and_eq_true] at h
  have h2 := log2_lt_pow (by decide) (of_decide_eq_true h.2)
  exact ⟨of_decide_eq_true h.1, by omega⟩
abbrev fDiv := fII divOk fun i j => .int (i / j)
theorem o_div : Op2 G (rI CDivW fun i j => .int (i / j)) fDiv := o_ii (fun i j h => divOk.ok h) fun _ _ _ _ => rep_int
abbrev fMod := fII (fun _ j => decide (0 < j)) fun i j => .int (i % j)
theorem o_mod : Op2 G (rI (fun _ j => 0 < j) fun i j => .int (i % j)) fMod := o_ii (fun i j h => of_decide_eq_true h) fun _ _ _ _ => rep_int
def powOk (i j : Int) : Bool := decide (0 ≤ j) && decide (j ≤ 1000) && decide (i.natAbs < 1000)
abbrev fPow := fII powOk fun i j => .int (i ^ j.toNat)
theorem o_pow : Op2 G (rI CPow fun i j => .int (i ^ j.toNat)) fPow := o_ii (fun i j h => by
  unfold powOk at h
  rw [Bool.and_eq_true, Bool.and_eq_true] at h
  have h1 := of_decide_eq_true h.1.1
  have h2 := of_decide_eq_true h.1.2
  have h3 := of_decide_eq_true h.2
  refine ⟨h1, by omega, Nat.lt_trans h3 (by decide)⟩) fun _ _ _ _ => rep_int
def fNeg : D → Option RV
  | .int i => some (.dat (.int (-i)))
  | _ => none
theorem o_neg : Op1 G (rU fun i => .int (-i)) fNeg := fun d rv A H x Q e t h q => by
  cases d <;> try (cases e; done)
  rename_i i
  cases e
  exact ⟨i, t_int h, q _ A H (Ext.refl t) rvI⟩
abbrev fLt := fII0 fun i j => .bl (decide (i < j))
abbrev fLe := fII0 fun i j => .bl (decide (i ≤ j))
abbrev fGt := fII0 fun i j => .bl (decide (j < i))
abbrev fGe := fII0 fun i j => .bl (decide (j ≤ i))
theorem o_lt : Op2 G (rI0 fun i j => .bl (decide (i < j))) fLt := o_ii0 fun _ _ _ _ => rep_bl
theorem o_le : Op2 G (rI0 fun i j => .bl (decide (i ≤ j))) fLe := o_ii0 fun _ _ _ _ => rep_bl
theorem o_gt : Op2 G (rI0 fun i j => .bl (decide (j < i))) fGt := o_ii0 fun _ _ _ _ => rep_bl
theorem o_ge : Op2 G (rI0 fun i j => .bl (decide (j ≤ i))) fGe := o_ii0 fun _ _ _ _ => rep_bl

/-! + : ints, texts, tuples, lists -/
def fAdd : D → D → Option RV
  | .int i, .int j => some (.dat (.int (i + j)))
  | .str a, .str b => if szOk (a.length + b.length) = true then some (.dat (.str (a ++ b))) else none
  | .tup a, .tup b => if szOk (a.length + b.length) = true then some (.dat (.tup (a ++ b))) else none
  | .lst a, .lst b => if szOk (a.length + b.length) = true then some (.fresh (.lst (a ++ b))) else none
  | _, _ => none
def rAddAll (K : PySem.W.Frag) : R2 := fun x y H Q => (∃ i j, x = .int i ∧ y = .int j ∧ Q (.int (i + j)) H) ∨ (∃ i j, x = .str i ∧ y = .str j ∧ i.length + j.length ≤ sizeLine ∧ Q (.str (i ++ j)) H) ∨ rCatF K x y H Q ∨ rCat x y H Q
theorem op_addAll : OpR X (binaryOp .Add) (rAddAll X.K) := op_add.or (op_add_str.or (op_catF.or op_cat))
theorem o_add : Op2 G (rAddAll G.K) fAdd := fun d d' rv A H x y Q e t h1 h2 q => by
  cases d <;> cases d' <;> try (cases e; done)
  · cases e
    exact .inl ⟨_, _, t_int h1, t_int h2, q _ A H (Ext.refl t) rvI⟩
  · rename_i a b
    have e : (if szOk (a.length + b.length) = true then some (RV.dat (.str (a ++ b))) else none) = some rv := e
    split at e
    · rename_i hz
      cases e
      exact .inr (.inl ⟨_, _, t_str h1, t_str h2, szOk.le hz, q _ A H (Ext.refl t) rvS⟩)
    · cases e
  · rename_i a b
    have e : (if szOk (a.length + b.length) = true then some (RV.dat (.tup (a ++ b))) else none) = some rv := e
    split at e
    · rename_i hz
      cases e
      obtain ⟨p1, v1, e1, s1, r1⟩ := t_tupF h1
      obtain ⟨p2, v2, e2, s2, r2⟩ := t_tupF h2
      refine .inr (.inr (.inl ⟨p1, p2, v1, v2, e1, e2, s1.t, s2.t, by rw [← r1.length, ← r2.length]; exact szOk.le hz, fun z => ?_, fun z z2 => ?_, fun z z2 p o hp hd => ?_⟩))
      · subst z
        have z0 : a = [] := List.eq_nil_of_length_eq_zero r1.length
        subst z0
        refine q _ A H (Ext.refl t) ?_
        show RepD G A H (.tup b) (.ref p2)
        unfold RepD
        exact ⟨p2, v2, rfl, s2, r2⟩
      · subst z2
        have z0 : b = [] := List.eq_nil_of_length_eq_zero r2.length
        subst z0
        refine q _ A H (Ext.refl t) ?_
        show RepD G A H (.tup (a ++ [])) (.ref p1)
        rw [List.append_nil]
        unfold RepD
        exact ⟨p1, v1, rfl, s1, r1⟩
      · exact q _ A _ (Ext.newTup t hp _) (rv_tup t (r1.append r2) hp hd)
    · cases e
  · rename_i a b
    have e : (if szOk (a.length + b.length) = true then some (RV.fresh (.lst (a ++ b))) else none) = some rv := e
    split at e
    · rename_i hz
      cases e
      obtain ⟨p1, v1, e1, s1, r1⟩ := t_lst h1
      obtain ⟨p2, v2, e2, s2, r2⟩ := t_lst h2
      exact .inr (.inr (.inr ⟨p1, p2, v1, v2, e1, e2, s1, s2, by rw [← r1.length, ← r2.length]; exact szOk.le hz, fun p hp => q _ _ _ (Ext.newLst t hp _) (rv_lst t (r1.append r2) hp)⟩))
    · cases e

/-! == and != of plain data -/
mutual
def toPy : D → Option PyData
  | .non => some .none
  | .bl b => some (.bool b)
  | .int i => some (.int i)
  | .str x => some (.str x)
  | .tup l => (toPys l).map .tuple
  | .lst l => (toPys l).map .list
  | _ => none
def toPys : List D → Option (List PyData)
  | [] => some []
  | d :: ds => match toPy d, toPys ds with
    | some p, some ps => some (p :: ps)
    | _, _ => none
end
mutual
theorem dp_of {A : Hid} {H : Hp} : ∀ (d : D) (p : PyData) (v : V), toPy d = some p → RepD G A H d v → Dp G.K H v p
  | .non, _, _, e, h => by
    unfold toPy at e
    unfold RepD at h
    cases e
    subst h
    exact .non
  | .bl _, _, _, e, h => by
    unfold toPy at e
    unfold RepD at h
    cases e
    subst h
    exact .bl _
  | .int _, _, _, e, h => by
    unfold toPy at e
    unfold RepD at h
    cases e
    subst h
    exact .int _
  | .str _, _, _, e, h => by
    unfold toPy at e
    unfold RepD at h
    cases e
    subst h
    exact .str _
  | .tup l, p, _, e, h => by
    unfold toPy at e
    unfold RepD at h
    obtain ⟨a, vs, rfl, s, r⟩ := h
    cases hp : toPys l with
    | none =>
      rw [hp] at e
      cases e
    | some ps =>
      rw [hp] at e
      cases e
      exact .tup s.t (dps_of l ps vs hp r)
  | .lst l, p, _, e, h => by
    unfold toPy at e
    unfold RepD at h
    obtain ⟨a, vs, rfl, s, r⟩ := h
    cases hp : toPys l with
    | none =>
      rw [hp] at e
      cases e
    | some ps =>
      rw [hp] at e
      cases e
      exact .lst s.sq (dps_of l ps vs hp r)
  | .dct _ _, _, _, e, _ => by unfold toPy at e; cases e
  | .obj _ _, _, _, e, _ => by unfold toPy at e; cases e
  | .fn _, _, _, e, _ => by unfold toPy at e; cases e
  | .scr _, _, _, e, _ => by unfold toPy at e; cases e
theorem dps_of {A : Hid} {H : Hp} : ∀ (l : List D) (ps : List PyData) (vs : List V), toPys l = some ps → RepDs G A H l vs → DpAll G.K H vs ps
  | [], _, _, e, h => by
    unfold toPys at e
    cases e
    obtain rfl := h.inv0
    exact .nil
  | d :: ds, ps, _, e, h => by
    unfold toPys at e
    obtain ⟨v, r, rfl, h1, h2⟩ := h.inv
    cases hd : toPy d with
    | none =>
      rw [hd] at e
      cases e
    | some p =>
      cases hs : toPys ds with
      | none =>
        rw [hd, hs] at e
        cases e
      | some q =>
        rw [hd, hs] at e
        cases e
        exact .cons (dp_of d p v hd h1) (dps_of ds q r hs h2)
end
theorem dp_t {A : Hid} {H : Hp} {d : D} {p : PyData} {v : V} (e : toPy d = some p) (h : RepT G A H d v) : Dp G.K H v p := by
  rcases h with h | ⟨a, rfl, _, h⟩
  · exact dp_of d p v e h
  · cases d with
    | lst l =>
      unfold toPy at e
      obtain ⟨vs, hp, r⟩ := h
      cases hq : toPys l with
      | none =>
        rw [hq] at e
        cases e
      | some ps =>
        rw [hq] at e
        cases e
        exact .lst (SqL.of hp) (dps_of l ps vs hq r)
    | dct _ _ => unfold toPy at e; cases e
    | obj _ _ => unfold toPy at e; cases e
    | _ => exact h.elim
def eqP (neg : Bool) (d e : D) : Option RV := match toPy d, toPy e with
  | some p, some q => if SeqAt.shaped p = true ∧ SeqAt.shaped q = true then some (.dat (.bl (neg ^^ PyData.eqv p q))) else none
  | _, _ => none
def twoS : D → D → Option (Str × Str)
  | .str x, .str y => some (x, y)
  | _, _ => none
theorem twoS_of {d e : D} {x y : Str} (h : twoS d e = some (x, y)) : d = .str x ∧ e = .str y := by
  unfold twoS at h
  split at h
  · cases h
    exact ⟨rfl, rfl⟩
  · cases h
def eqF (neg : Bool) (d e : D) : Option RV := match twoS d e with
  | some (x, y) => some (.dat (.bl (neg ^^ decide (x = y))))
  | none => eqP neg d e
def rEqT (K : PySem.W.Frag) : R2 := fun x y H Q => rEq x y H Q ∨ rEqD K x y H Q
def rNeT (K : PySem.W.Frag) : R2 := fun x y H Q => rNe x y H Q ∨ rNeD K x y H Q
theorem op_eqT (hu : X.A.units + 64 < cLine) : OpR X (compareOp .Eq) (rEqT X.K) := op_eq.or (op_eqD hu)
theorem op_neT (hu : X.A.units + 64 < cLine) : OpR X (compareOp .NotEq) (rNeT X.K) := op_ne.or (op_neD hu)
theorem strV {A : Hid} {H : Hp} {x : Str} {v : V} (h : RepT G A H (.str x) v) : v = .str x := by
  rcases h with h | ⟨a, rfl, _, h⟩
  · exact h
  · exact h.elim
theorem o_eq : Op2 G (rEqT G.K) (eqF false) := fun d d' rv A H x y Q e t h1 h2 q => by
  unfold eqF at e
  split at e
  · rename_i sx sy hs
    obtain ⟨rfl, rfl⟩ := twoS_of hs
    cases strV h1
    cases strV h2
    cases e
    refine .inl ⟨rfl, q _ A H (Ext.refl t) ?_⟩
    rw [Bool.false_xor, show decide (V.str sx = V.str sy) = decide (sx = sy) from by by_cases hh : sx = sy <;> simp [hh]]
    exact rvB
  unfold eqP at e
  split at e
  · rename_i p1 p2 e1 e2
    split at e
    · rename_i hs
      cases e
      refine .inr ⟨p1, p2, dp_t e1 h1, dp_t e2 h2, hs.1, hs.2, q _ A H (Ext.refl t) ?_⟩
      rw [Bool.false_xor]
      exact rvB
    · cases e
  · cases e
theorem o_ne : Op2 G (rNeT G.K) (eqF true) := fun d d' rv A H x y Q e t h1 h2 q => by
  unfold eqF at e
  split at e
  · rename_i sx sy hs
    obtain ⟨rfl, rfl⟩ := twoS_of hs
    cases strV h1
    cases strV h2
    cases e
    refine .inl ⟨rfl, q _ A H (Ext.refl t) ?_⟩
    rw [Bool.true_xor, show decide (V.str sx = V.str sy) = decide (sx = sy) from by by_cases hh : sx = sy <;> simp [hh]]
    exact rvB
  unfold eqP at e
  split at e
  · rename_i p1 p2 e1 e2
    split at e
    · rename_i hs
      cases e
      refine .inr ⟨p1, p2, dp_t e1 h1, dp_t e2 h2, hs.1, hs.2, q _ A H (Ext.refl t) ?_⟩
      rw [Bool.true_xor]
      exact rvB
    · cases e
  · cases e
/-- is None, is not None -/
def isNon : D → Bool
  | .non => true
  | _ => false
def fIsN (neg : Bool) (d e : D) : Option RV := match e with
  | .non => some (.dat (.bl (neg ^^ isNon d)))
  | _ => none
theorem isNon_v {A : Hid} {H : Hp} {d : D} {x : V} (h : RepT G A H d x) : decide (x = .non) = isNon d := by
  rcases h with h | ⟨p, rfl, _, h⟩
  · cases d <;> unfold RepD at h
    · subst h
      rfl
    all_goals first
      | (subst h; rfl)
      | (obtain ⟨a, vs, rfl, _⟩ := h; rfl)
      | (obtain ⟨a, rfl, _⟩ := h; rfl)
      | (obtain ⟨a, C, dx, ns, vs, rfl, _⟩ := h; rfl)
  · cases d <;> first | exact h.elim | rfl
theorem o_isN : Op2 G (fun x y H Q => y = .non ∧ Q (.bl (decide (x = .non))) H) (fIsN false) := fun d d' rv A H x y Q e t h1 h2 q => by
  unfold fIsN at e
  split at e
  · cases e
    refine ⟨t_non h2, q _ A H (Ext.refl t) ?_⟩
    rw [isNon_v h1, Bool.false_xor]
    exact rvB
  · cases e
theorem o_notN : Op2 G (fun x y H Q => y = .non ∧ Q (.bl (!decide (x = .non))) H) (fIsN true) := fun d d' rv A H x y Q e t h1 h2 q => by
  unfold fIsN at e
  split at e
  · cases e
    refine ⟨t_non h2, q _ A H (Ext.refl t) ?_⟩
    rw [isNon_v h1, Bool.true_xor]
    exact rvB
  · cases e

/-! items, lengths, slices -/
def fIx : D → D → Option RV
  | .lst l, .int i => (atI l i).map .dat
  | .tup l, .int i => (atI l i).map .dat
  | .scr l, .int i => (atI l i).map fun n => .dat (.int n)
  | .str z, .int i => if szOk z.length = true then (atI z.cps.toList i).map fun c => .dat (.str ⟨#[c]⟩) else none
  | _, _ => none
theorem at_rep {A : Hid} {H : Hp} {l : List D} {vs : List V} {i : Int} {d : D} (r : RepDs G A H l vs) (h : atI l i = some d) : ∃ v, atI vs i = some v ∧ RepD G A H d v := by
  unfold atI at h ⊢
  rw [r.length] at h
  cases hj : ixN vs.length i with
  | none =>
    rw [hj] at h
    cases h
  | some j =>
    rw [hj] at h
    obtain ⟨v, e, k⟩ := r.get (show l[j]? = some d from h)
    exact ⟨v, e, k⟩
theorem at_map {α β : Type} {l : List α} {i : Int} {a : α} (f : α → β) (h : atI l i = some a) : atI (l.map f) i = some (f a) := by
  unfold atI at h ⊢
  rw [List.length_map]
  cases hj : ixN l.length i with
  | none =>
    rw [hj] at h
    cases h
  | some j =>
    rw [hj] at h
    show (l.map f)[j]? = some (f a)
    rw [List.getElem?_map, show l[j]? = some a from h]
    rfl
theorem o_ix : Op2 G (rIx G.K) fIx := fun d d' rv A H x y Q e t h1 h2 q => by
  cases d <;> cases d' <;> try (cases e; done)
  · rename_i z i
    have e : (if szOk z.length = true then (atI z.cps.toList i).map fun c => RV.dat (.str ⟨#[c]⟩) else none) = some rv := e
    split at e
    · rename_i hz
      cases hc : atI z.cps.toList i with
      | none =>
        rw [hc] at e
        cases e
      | some c =>
        rw [hc] at e
        cases e
        exact .inr (.inr ⟨z, i, c, t_str h1, t_int h2, szOk.le hz, hc, q _ A H (Ext.refl t) rvS⟩)
    · cases e
  · rename_i l i
    have e : (atI l i).map RV.dat = some rv := e
    cases hc : atI l i with
    | none =>
      rw [hc] at e
      cases e
    | some d =>
      rw [hc] at e
      cases e
      obtain ⟨a, vs, e1, s, r⟩ := t_tup h1
      obtain ⟨v, e2, k⟩ := at_rep r hc
      exact .inr (.inl ⟨a, vs, i, v, e1, t_int h2, s, e2, q _ A H (Ext.refl t) k⟩)
  · rename_i l i
    have e : (atI l i).map RV.dat = some rv := e
    cases hc : atI l i with
    | none =>
      rw [hc] at e
      cases e
    | some d =>
      rw [hc] at e
      cases e
      obtain ⟨a, vs, e1, s, r⟩ := t_lst h1
      obtain ⟨v, e2, k⟩ := at_rep r hc
      exact .inl ⟨a, vs, i, v, e1, t_int h2, SqL.of s, e2, q _ A H (Ext.refl t) k⟩
  · rename_i l i
    have e : ((atI l i).map fun n => RV.dat (.int n)) = some rv := e
    cases hc : atI l i with
    | none =>
      rw [hc] at e
      cases e
    | some d =>
      rw [hc] at e
      cases e
      obtain ⟨a, e1, s⟩ := t_scr h1
      exact .inl ⟨a, _, i, _, e1, t_int h2, s, at_map V.int hc, q _ A H (Ext.refl t) rvI⟩
def fLen : D → Option RV
  | .lst l => some (.dat (.int l.length))
  | .tup l => some (.dat (.int l.length))
  | .scr l => some (.dat (.int l.length))
  | .str z => if szOk z.length = true then some (.dat (.int z.length)) else none
  | _ => none
def rLenAll (K : PySem.W.Frag) : List V → Hp → VK → Prop := fun xs H Q => (∃ p ys, xs = [.ref p] ∧ (SqL K H p ys ∨ SqT K H p ys) ∧ Q (.int ys.length) H) ∨ ∃ z, xs = [.str z] ∧ z.length ≤ sizeLine ∧ Q (.int z.length) H
theorem call_lenAll : CallR X (.builtin "len") (rLenAll X.K) := call_len_seq.or call_len_str
theorem o_len : Cb1 G (rLenAll G.K) fLen := fun d rv A H x Q e t h q => by
  cases d <;> try (cases e; done)
  · rename_i z
    have e : (if szOk z.length = true then some (RV.dat (.int z.length)) else none) = some rv := e
    split at e
    · rename_i hz
      cases e
      exact .inr ⟨z, by rw [t_str h], szOk.le hz, q _ A H (Ext.refl t) rvI⟩
    · cases e
  · cases e
    obtain ⟨a, vs, e1, s, r⟩ := t_tup h
    subst e1
    refine .inl ⟨a, vs, rfl, .inr s, q _ A H (Ext.refl t) ?_⟩
    rw [← r.length]
    exact rvI
  · cases e
    obtain ⟨a, vs, e1, s, r⟩ := t_lst h
    subst e1
    refine .inl ⟨a, vs, rfl, .inl (SqL.of s), q _ A H (Ext.refl t) ?_⟩
    rw [← r.length]
    exact rvI
  · rename_i l
    cases e
    obtain ⟨a, e1, s⟩ := t_scr h
    subst e1
    refine .inl ⟨a, _, rfl, .inl s, q _ A H (Ext.refl t) ?_⟩
    rw [List.length_map]
    exact rvI
/-! built-ins of ints -/
def fAbs : D → Option RV
  | .int i => some (.dat (.int (if i < 0 then -i else i)))
  | _ => none
theorem o_abs : Cb1 G (fun xs H Q => ∃ i, xs = [.int i] ∧ Q (.int (if i < 0 then -i else i)) H) fAbs := fun d rv A H x Q e t h q => by
  cases d <;> try (cases e; done)
  cases e
  exact ⟨_, by rw [t_int h], q _ A H (Ext.refl t) rvI⟩
abbrev fMax := fII0 fun i j => .int (if j > i then j else i)
abbrev fMin := fII0 fun i j => .int (if j < i then j else i)
theorem o_max : Cb2 G (fun xs H Q => ∃ i j, xs = [.int i, .int j] ∧ Q (.int (if j > i then j else i)) H) fMax := fun d d' rv A H x y Q e t h1 h2 q => by
  cases d <;> cases d' <;> try (cases e; done)
  cases e
  exact ⟨_, _, by rw [t_int h1, t_int h2], q _ A H (Ext.refl t) rvI⟩
theorem o_min : Cb2 G (fun xs H Q => ∃ i j, xs = [.int i, .int j] ∧ Q (.int (if j < i then j else i)) H) fMin := fun d d' rv A H x y Q e t h1 h2 q => by
  cases d <;> cases d' <;> try (cases e; done)
  cases e
  exact ⟨_, _, by rw [t_int h1, t_int h2], q _ A H (Ext.refl t) rvI⟩
abbrev fDivmod := fII divOk fun i j => .tup [.int (i / j), .int (i % j)]
theorem o_divmod : Cb2 G rDivF fDivmod := fun d d' rv A H x y Q e t h1 h2 q => by
  cases d <;> cases d' <;> try (cases e; done)
  rename_i i j
  have e : (if divOk i j = true then some (RV.dat (.tup [.int (i / j), .int (i % j)])) else none) = some rv := e
  split at e
  · rename_i hz
    cases e
    have z := divOk.ok hz
    exact ⟨i, j, by rw [t_int h1, t_int h2], ⟨z.1, PyProof.noPylong_of_log2 z.2⟩, fun p o hp hd => q _ A _ (Ext.newTup t hp _) (rv_tup t (.cons rep_int (.cons rep_int .nil)) hp hd)⟩
  · cases e
def fInt : D → Option RV
  | .int i => some (.dat (.int i))
  | .bl b => some (.dat (.int (if b then 1 else 0)))
  | _ => none
theorem o_int : Cb1 G (fun xs H Q => (∃ i, xs = [.int i] ∧ Q (.int i) H) ∨ ∃ k, xs = [.bl k] ∧ Q (.int (if k then 1 else 0)) H) fInt := fun d rv A H x Q e t h q => by
  cases d <;> try (cases e; done)
  · cases e
    exact .inr ⟨_, by rw [t_bl h], q _ A H (Ext.refl t) rvI⟩
  · cases e
    exact .inl ⟨_, by rw [t_int h], q _ A H (Ext.refl t) rvI⟩
end
end Tk
/-! Tk8: slices, isinstance, repr; the end of a law. -/
namespace Tk
open PySem PySem.Spec PyProof.Rows L2

section
variable {G : Tb} {XR : XW} {W : WX} {X : Cx}

/-! ### slices -/
abbrev OF := Env → Option (Rs (Option Int))
variable (G XR W) in
def tEvO (f : OF) : TO := fun σ H Q => ∃ A env, Rep G A σ H env ∧ Post G XR W σ A H env (fun o _ _ H' => Q o H') (f env)
theorem PO_imp {X : Cx} {e : Option Expr} {t t' : TO} (h : PO X e t) (i : ∀ σ H Q, t' σ H Q → t σ H Q) : PO X e t' := ⟨fun pins s σ H Q I q => h.run pins s σ H Q I (i σ H Q q)⟩
def oNone : OF := fun env => some (.ok none env)
def oSome (f : EF) : OF := fun env => bd (f env) fun o e => match peek e o with
  | some (.int i) => some (.ok (some i) e)
  | _ => none
theorem eo_none : PO X none (tEvO G XR W oNone) := PO_imp po_none fun σ H Q ⟨A, env, R, p⟩ => p A H R (Fr.refl _ _ _)
theorem eo_some {e : Expr} {f : EF} (h : PE X e (tEv G XR W f)) : PO X (some e) (tEvO G XR W (oSome f)) := PO_imp (po_some h) fun σ H Q ⟨A, env, R, p⟩ => by
  refine (ev_seq R p).imp fun x H1 ⟨A1, e1, o1, R1, ok, F1, p1⟩ => ?_
  split at p1
  · rename_i i hi
    exact ⟨i, t_int (peek_ok R1 ok hi), p1 A1 H1 R1 (Fr.refl _ _ _)⟩
  · exact p1.elim
theorem evO_seq {β : Type} {f : OF} {k : Option Int → Env → Option (Rs β)} {KK : β → Env → Hid → Hp → Prop} {σ : L2.St} {A : Hid} {H : Hp} {env : Env} (R : Rep G A σ H env) (p : Post G XR W σ A H env KK (bd (f env) k)) :
    tEvO G XR W f σ H (fun b H1 => ∃ A1 env1, Rep G A1 σ H1 env1 ∧ Fr (Own σ env) A H (Own σ env1) A1 H1 ∧ Post G XR W σ A1 H1 env1 KK (k b env1)) := by
  refine ⟨A, env, R, ?_⟩
  cases hf : f env with
  | none =>
    rw [hf] at p
    exact p
  | some r =>
    rw [hf] at p
    cases r with
    | ok o e1 => exact fun A1 H1 R1 F1 => ⟨A1, e1, R1, F1, Post.imp F1 (fun _ _ _ _ _ q => q) p⟩
    | ex x e1 => exact p
theorem tEvO.imp {f : OF} {σ : L2.St} {H : Hp} {Q Q' : Option Int → Hp → Prop} (h : tEvO G XR W f σ H Q) (i : ∀ v H', Q v H' → Q' v H') : tEvO G XR W f σ H Q' := by
  obtain ⟨A, env, R, p⟩ := h
  exact ⟨A, env, R, Post.imp (Fr.refl _ _ _) (fun _ _ _ _ _ q => i _ _ q) p⟩
def cutG {α : Type} (xs : List α) (lo hi : Option Int) : List α := (xs.drop (HT.sIx xs.length 0 lo)).take (HT.sIx xs.length xs.length hi - HT.sIx xs.length 0 lo)
def fSl (d : D) (lo hi : Option Int) : Option RV := match d with
  | .lst l => some (.fresh (.lst (cutG l lo hi)))
  | .tup l => some (.dat (.tup (cutG l lo hi)))
  | .str z => if szOk z.length = true then some (.dat (.str (cutS z lo hi))) else none
  | _ => none
def rSlAll (K : PySem.W.Frag) : V → Option Int → Option Int → Hp → VK → Prop := fun x lo hi H Q => rSlL K x lo hi H Q ∨ rSlF K x lo hi H Q ∨ rSlS x lo hi H Q
theorem sl_all : SlR X (rSlAll X.K) := sl_list.or (sl_tupF.or sl_str)
theorem cut_rep {A : Hid} {H : Hp} {l : List D} {vs : List V} (lo hi : Option Int) (r : RepDs G A H l vs) : RepDs G A H (cutG l lo hi) (cutV vs lo hi) := by
  unfold cutG cutV
  rw [r.length]
  exact (r.drop _).take _
theorem o_sl {d : D} {rv : RV} {A : Hid} {H : Hp} {x : V} {lo hi : Option Int} {Q : VK} (e : fSl d lo hi = some rv) (t : TupOk A H) (h : RepT G A H d x) (q : ∀ v A' H', Ext A H A' H' → RvOk G H A' H' rv v → Q v H') : rSlAll G.K x lo hi H Q := by
  cases d <;> try (cases e; done)
  · rename_i z
    have e : (if szOk z.length = true then some (RV.dat (.str (cutS z lo hi))) else none) = some rv := e
    split at e
    · rename_i hz
      cases e
      exact .inr (.inr ⟨z, t_str h, szOk.le hz, q _ A H (Ext.refl t) rvS⟩)
    · cases e
  · rename_i l
    cases e
    obtain ⟨a, vs, e1, s, r⟩ := t_tupF h
    refine .inr (.inl ⟨a, vs, e1, s.t, fun z => ?_, fun _ p o hp hd => ?_⟩)
    · refine q _ A H (Ext.refl t) ?_
      show RepD G A H (.tup (cutG l lo hi)) (.ref a)
      have ew : cutG l lo hi = l := by
        unfold cutG
        rw [r.length, z.1, z.2, List.drop_zero, Nat.sub_zero, ← r.length, List.take_length]
      rw [ew]
      unfold RepD
      exact ⟨a, vs, rfl, s, r⟩
    · exact q _ A _ (Ext.newTup t hp _) (rv_tup t (cut_rep lo hi r) hp hd)
  · rename_i l
    cases e
    obtain ⟨a, vs, e1, s, r⟩ := t_lst h
    exact .inl ⟨a, vs, e1, SqL.of s, fun p hp => q _ _ _ (Ext.newLst t hp _) (rv_lst t (cut_rep lo hi r) hp)⟩
def cSl (f : EF) (lo hi : OF) : EF := fun env => bd (f env) fun o e => bd (lo e) fun l e1 => bd (hi e1) fun h e2 => match peek e2 o with
  | some d => match fSl d l h with
    | some rv => some (.ok rv.out e2)
    | none => none
  | none => none
theorem ev_slice {e : Expr} {lo hi : Option Expr} {p2 pos : Pos} {f : EF} {l h : OF} (hk : X.K = G.K) (he : PE X e (tEv G XR W f)) (hl : PO X lo (tEvO G XR W l)) (hu : PO X hi (tEvO G XR W h)) : PE X (.Subscript e (.Slice lo hi none p2) pos) (tEv G XR W (cSl f l h)) :=
  PE_imp (pe_slice sl_all he hl hu) fun σ H Q ⟨A, env, R, p⟩ => by
    refine (ev_seq R p).imp fun x H1 ⟨A1, e1, o1, R1, ok, F1, p1⟩ => ?_
    refine (evO_seq R1 p1).imp fun lo' H2 ⟨A2, e2, R2, F2, p2⟩ => ?_
    refine (evO_seq R2 p2).imp fun hi' H3 ⟨A3, e3, R3, F3, p3⟩ => ?_
    have ok3 := ok.mono R1 (F2.trans F3)
    split at p3
    · rename_i d hd
      split at p3
      · rename_i rv hr
        rw [hk]
        exact o_sl hr R3.tup (peek_ok R3 ok3 hd) fun v A' H' ex ro => fin_rv R3 (fun p q => F1.none (F2.none (F3.none q))) p3 ex ro
      · exact p3.elim
    · exact p3.elim

/-! ### isinstance with a built-in class -/
def tyName : D → Option String
  | .non => some "NoneType"
  | .bl _ => some "bool"
  | .int _ => some "int"
  | .str _ => some "str"
  | .tup _ => some "tuple"
  | .lst _ => some "list"
  | .dct _ _ => some "dict"
  | _ => none
theorem ty_of {A : Hid} {H : Hp} {d : D} {x : V} {n : String} (h : RepT G A H d x) (e : tyName d = some n) : TyX G.K H x (.type n) := by
  rcases h with h | ⟨p, rfl, _, h⟩
  · cases d <;> try (cases e; done)
    · unfold RepD at h
      cases e
      subst h
      exact .base .non
    · unfold RepD at h
      cases e
      subst h
      exact .base (.bl _)
    · unfold RepD at h
      cases e
      subst h
      exact .base (.int _)
    · unfold RepD at h
      cases e
      subst h
      exact .base (.str _)
    · unfold RepD at h
      cases e
      obtain ⟨a, vs, rfl, s, r⟩ := h
      rcases s with ⟨o, s, _⟩ | ⟨o, its, k, hk, hc, _⟩
      · exact .fTuple s
      · exact .kTuple hk hc
    · unfold RepD at h
      cases e
      obtain ⟨a, vs, rfl, s, r⟩ := h
      exact .base (.lst s.2)
    · unfold RepD at h
      cases e
      obtain ⟨a, vs, rfl, _, s, _⟩ := h
      rcases s with s | ⟨o, s⟩
      · exact .base (.dK s)
      · exact .fDict s
  · cases d <;> try (exact h.elim)
    · cases e
      obtain ⟨vs, hp, _⟩ := h
      exact .base (.lst hp)
    · cases e
      obtain ⟨vs, hp, _⟩ := h
      exact .base (.dK hp)
    · cases e
def fIsi (T : String) (d : D) : Option RV := match tyName d with
  | some a => match kitB a T with
    | some b => some (.dat (.bl b))
    | none => none
  | none => none
theorem ev_isi {T : String} {x : Str} {p p1 pos : Pos} {e : Expr} {f : EF} {k : Nat} (hk : X.K = G.K) (hg : Gl X "isinstance") (hm : X.mg "isinstance" = none) (hv : bootBuiltins "isinstance" = some (.builtin "isinstance")) (hgT : Gl X x) (hmT : X.mg x = none) (hvT : bootBuiltins x = some (.type T)) (he : PE X e (tEv G XR W f))
    (hn : x ≠ "__name__" := by decide) (hd : (x == ("__debug__" : Str)) = false := by decide) (hs : starEach [e, .Name x p1] X.env = (false, eval e X.env) :: starEach [.Name x p1] X.env := by rfl) :
    PE X (.Call (.Name "isinstance" p) [e, .Name x p1] [] pos) (tEv G XR W (cUn (fIsi T) f)) :=
  PE_imp (pe_callB call_isi hg hm hv (pa_cons he (pa_cons (pe_bltn (v := .ty T) hgT hmT hvT rfl hn hd) pa_nil (by rfl)) hs) (by decide) (by decide) hs (by rfl)) fun σ H Q h => by
    refine use1 (r := fun x H Q => rIsi X.K [x, .ty T] H Q) (fun d rv A H x Q e t h q => ?_) h
    unfold fIsi at e
    split at e
    · rename_i a ha
      split at e
      · rename_i b hb
        cases e
        rw [hk]
        exact ⟨x, .ty T, .type a, .type T, b, rfl, .ty T, ty_of h ha, kit_ty hb, q _ A H (Ext.refl t) rvB⟩
      · cases e
    · cases e

/-! ### repr -/
def fRepr (d : D) : Option RV := match toPy d with
  | some p => if PyData.showable p = true ∧ SeqAt.shaped p = true ∧ szOk p.shown.length = true ∧ PyData.hasDict p = false then some (.dat (.str p.shown)) else none
  | none => none
def rRepr (K : PySem.W.Frag) : List V → Hp → VK → Prop := fun xs H Q => ∃ x p, xs = [x] ∧ Dp K H x p ∧ PyData.showable p = true ∧ SeqAt.shaped p = true ∧ p.shown.length ≤ sizeLine ∧ PyData.hasDict p = false ∧ Q (.str p.shown) H
end

/-! ### the end of a law -/
theorem law_g {P : Program} {w : World} {K : PySem.W.Frag} {mg mb : Str → Option Value} {k : Nat} {fa a : Addr} {fd : FuncData} {x : Str} {sp : Sp} {s₁ : Shared} {vs : List Value} {ns : List Int}
    (inK : K.In s₁.heap) (hns : s₁.heap.Ns mainGlobals mg) (hb : s₁.heap.Ns builtinsNs mb) (hbb : ∀ x : Str, x ≠ "__name__" → mb x = bootBuiltins x) (hlim : s₁.heap.NoLimit) (hg : s₁.gens = #[])
    (ha : s₁.heap.get? a = some { cls := .type "list", data := .seq vs.toArray }) (hi : IntsAre vs ns) (hl : ns.length ≤ sizeLine) (room : Room k callerA)
    (F : ∀ base : Heap, K.In base → base.Ns mainGlobals mg → FnG P w K mg base k fa fd [x] sp) (hbind : ∀ (s : Shared) (u : Value), BindsTo s fd ⟨[u], []⟩ [(x, u)])
    (hsp : ∀ H : Hp, (((∃ o, H a = some (.frz o (.lst (ns.map V.int)))) ∨ SqL K (fun _ => none) a (ns.map V.int))) → sp [.ref a] H (fun v _ => v = .bl true) fun _ _ _ => False) :
    codeAny (model P w) callerA (.call (.ref fa) ⟨[.ref a], []⟩) (fun r s' => r = .ok (.ret (.bool true)) ∧ OldK s₁.heap s'.heap ∧ s'.os = s₁.os ∧ AllBare s'.gens) s₁ := by
  have rv := vals_ints hi
  -- over any abstract heap that tracks the script alone, or nothing
  have core : ∀ H : Hp, (∀ b, H b = none ∨ ∃ o xs, H b = some (.frz o (.lst xs))) → (((∃ o, H a = some (.frz o (.lst (ns.map V.int)))) ∨ SqL K (fun _ => none) a (ns.map V.int))) → HOk P w H s₁.heap → (∀ b, H b ≠ none → b = a) → (H a ≠ none → K.lookup a = none) →
      codeAny (model P w) callerA (.call (.ref fa) ⟨[.ref a], []⟩) (fun r s' => r = .ok (.ret (.bool true)) ∧ OldK s₁.heap s'.heap ∧ s'.os = s₁.os ∧ AllBare s'.gens) s₁ := by
    intro H only hS hok isA noK
    have dictFree : ∀ {b : Addr} {o : Obj} {es : Array DictEntry} {ep : Nat}, s₁.heap.get? b = some o → o.data = .dict es ep → H b = none := by
      intro b o es ep e d
      cases q : H b with
      | none => rfl
      | some u =>
        have hba : b = a := isA b (by rw [q]; simp)
        subst hba
        rw [ha] at e
        cases e
        have d' : Data.seq vs.toArray _ = Data.dict es ep := d
        cases d'
    have nsIn : ∀ {b : Addr} {m : Str → Option Value}, s₁.heap.Ns b m → (hidT s₁.heap H).Ns b m := fun {b m} ⟨o, es, ep, e, d, r⟩ => ⟨o, es, ep, hidT_get e (dictFree e d), d, r⟩
    have kb : K.In (hidT s₁.heap H) := fun b o e => hidT_get (inK b o e) (by
      cases q : H b with
      | none => rfl
      | some u =>
        have hba : b = a := isA b (by rw [q]; simp)
        subst hba
        have z := noK (by rw [q]; simp)
        rw [z] at e
        cases e)
    have hM : Mod K mg (hidT s₁.heap H) := ⟨kb, nsIn hns, ⟨mb, nsIn hb, hbb⟩, let ⟨mc, h1, h2⟩ := hlim; ⟨mc, nsIn h1, h2⟩⟩
    have env0 : Env0 P w K mg (hidT s₁.heap H) callerA [] s₁ H :=
      ⟨rfl, hM, fun b o e => of_hidT e, Nat.le_of_eq (hidT_size _ _), trivial, fun b hb => absurd (show b ∈ ([] : List Addr) from hb) (by simp), hok, .of_eq hg⟩
    refine codeAny_mono ((F _ kb (nsIn hns)).run callerA [] s₁ H ⟨[.ref a], []⟩ [.ref a] [.ref a] _ _ room rfl env0 (hbind s₁ (.ref a)) (.cons rfl .nil) (hsp H hS)) fun r s' h => ?_
    cases r with
    | error e =>
      obtain ⟨_, _, _, _, _, _, _, _, _, _, _, _, z⟩ := (show L2.CX P w [] H s₁ (fun _ _ _ => False) e s' from h)
      exact z.elim
    | ok fl =>
      cases fl with
      | next => exact h.elim
      | brk => exact h.elim
      | cont => exact h.elim
      | ret u =>
        obtain ⟨v, H', os, bare, un, hok', r', q⟩ := h
        have q' : v = .bl true := q
        subst q'
        obtain rfl : u = Value.bool true := r'
        refine ⟨rfl, OldK.of_keep fun b o e => ?_, os, bare⟩
        cases q : H b with
        | none => exact un.keep b o e q (fun z => absurd (show b ∈ ([] : List Addr) from z) (by simp)) (by simp)
        | some u =>
          rcases only b with z | ⟨ob, xs, z⟩
          · rw [q] at z
            cases z
          · have z2 := un.frzs b ob _ z
            obtain ⟨e1, _⟩ := hok b _ z
            obtain ⟨e2, _⟩ := hok' b _ z2
            rw [e] at e1
            cases e1
            exact e2
  have lenV := hi.length
  cases hk : K.lookup a with
  | some o =>
    have e := inK a o hk
    rw [ha] at e
    cases e
    exact core (fun _ => none) (fun _ => .inl rfl) (.inr (.inr ⟨_, vs.toArray, _, hk, rfl, rfl, rfl, by rw [List.size_toArray, lenV]; exact hl, by simpa using rv⟩))
      (fun b u z => by
        have z' : (none : Option HO) = some u := z
        cases z') (fun b z => absurd rfl z) fun z => absurd rfl z
  | none =>
    refine core (fun b => if b = a then some (.frz { cls := .type "list", data := .seq vs.toArray } (.lst (ns.map V.int))) else none) (fun b => ?_) (.inl ⟨_, if_pos rfl⟩) (fun b u z => ?_) (fun b z => ?_) fun _ => hk
    · by_cases hb : b = a
      · exact .inr ⟨_, _, if_pos hb⟩
      · exact .inl (if_neg hb)
    · by_cases hb : b = a
      · have z' := (if_pos hb).symm.trans z
        cases z'
        subst hb
        exact ⟨ha, by rw [List.length_map]; exact hl, vs, _, rv, ha⟩
      · have z' := (if_neg hb).symm.trans z
        cases z'
    · by_cases hb : b = a
      · exact hb
      · exact absurd (if_neg hb) z

end Tk
/-! Tk9: two names stored at once. -/
namespace Tk
open PySem PySem.Spec PyProof.Rows L2
section
variable {G : Tb} {XR : XW} {W : WX} {X : Cx} {fx : List Nat}

/-- a slot's thing becomes data; else as it is -/
def rsl (o : Out) (e : Env) : Option (RV × Env) := match o with
  | .dat d => some (.dat d, e)
  | .fresh d => some (.fresh d, e)
  | .slot i => match use e (.slot i) with
    | some (.ok d e2) => some (.dat d, e2)
    | _ => none
def RV.cell : RV → Cell
  | .dat d => .dat d
  | .fresh d => .own d
def parK (fx : List Nat) (i j : Nat) (o1 o2 : Out) (e : Env) : Option (Rs Fl) := match rsl o1 e with
  | some (r1, e1) => match rsl o2 e1 with
    | some (r2, e2) => if i ∈ fx ∨ j ∈ fx ∨ e2.length ≤ i ∨ e2.length ≤ j ∨ i = j then none else some (.ok .next ((e2.set i (some r1.cell)).set j (some r2.cell)))
    | none => none
  | none => none
def sPar (fx : List Nat) (i j : Nat) (f g : EF) : SF := fun env => bd (f env) fun o1 e1 => bd (g e1) fun o2 e2 => parK fx i j o1 o2 e2

def RvAt (G : Tb) (H0 : Hp) (A : Hid) (σ : L2.St) (H : Hp) (e : Env) (r : RV) (v : V) : Prop := OutOk G H0 A σ H e r.out v
theorem rsl_ok {σ : L2.St} {A A0 : Hid} {H H0 : Hp} {env0 e e1 : Env} {o : Out} {v : V} {r : RV} (R : Rep G A σ H e) (F0 : Fr (Own σ env0) A0 H0 (Own σ e) A H) (ok : OutOk G H0 A σ H e o v) (h : rsl o e = some (r, e1)) :
    ∃ A1, Rep G A1 σ H e1 ∧ Fr (Own σ env0) A0 H0 (Own σ e1) A1 H ∧ OutOk G H0 A1 σ H e1 r.out v ∧ (∀ q, Own σ e1 q → Own σ e q) ∧ (∀ q, A1 q → A q) ∧ ∀ q, A q → ¬ Own σ e q → A1 q := by
  cases o with
  | dat d =>
    cases h
    exact ⟨A, R, F0, ok, fun _ z => z, fun _ z => z, fun _ z _ => z⟩
  | fresh d =>
    cases h
    exact ⟨A, R, F0, ok, fun _ z => z, fun _ z => z, fun _ z _ => z⟩
  | slot i =>
    have h : (match use e (.slot i) with
      | some (.ok d e2) => some (RV.dat d, e2)
      | _ => none) = some (r, e1) := h
    split at h
    · rename_i d e2 hu
      cases h
      have ok : σ[i]? = some (some v) := ok
      unfold use at hu
      simp only at hu
      split at hu
      · rename_i d' h1
        cases hu
        obtain ⟨u, e2, c⟩ := R.cell i _ h1
        rw [ok] at e2
        cases e2
        exact ⟨A, R, F0, c, fun _ z => z, fun _ z => z, fun _ z _ => z⟩
      · rename_i d' h1
        cases hu
        obtain ⟨u, e2, p, e3, a, t⟩ := R.cell i _ h1
        rw [ok] at e2
        cases e2
        subst e3
        obtain ⟨r1, r2, r3⟩ := R.freeze h1 ok
        refine ⟨_, r1, ⟨fun b x hb nb => ⟨(F0.keep b x hb nb).1, ?_⟩, fun q hq => F0.own q (r2 q hq).1, F0.dom⟩, r3, fun q z => (r2 q z).1, fun _ z => z.1, fun q z n => ⟨z, fun w => n ⟨i, d, h1, w ▸ ok⟩⟩⟩
        refine Iff.trans ⟨fun z => z.1, fun z => ⟨z, fun w => ?_⟩⟩ (F0.keep b x hb nb).2
        rcases F0.own b ⟨i, d, h1, w ▸ ok⟩ with q | q
        · exact nb q
        · rw [q] at hb
          cases hb
      · cases hu
    · cases h
/-- an out stays while own things become data -/
theorem OutOk.less {σ : L2.St} {A A1 : Hid} {H H0 : Hp} {e e1 : Env} {o : Out} {v : V} (R : Rep G A σ H e) (ow : ∀ q, Own σ e1 q → Own σ e q) (sub : ∀ q, A1 q → A q) (kp : ∀ q, A q → ¬ Own σ e q → A1 q) (ok : OutOk G H0 A σ H e o v) : OutOk G H0 A1 σ H e1 o v := by
  cases o with
  | dat d => exact RepD.mono (sub_stab sub) R.tup _ _ ok
  | fresh d =>
    obtain ⟨p, e1, e2, a, n, t⟩ := ok
    exact ⟨p, e1, e2, kp p a n, fun z => n (ow p z), t.mono (sub_stab sub) R.tup fun _ z => z⟩
  | slot i => exact ok
/-- one cell stored -/
theorem Rep.setRV {σ : L2.St} {A : Hid} {H H0 : Hp} {e : Env} {i : Nat} {r : RV} {v : V} (R : Rep G A σ H e) (hi : i < e.length) (ok : OutOk G H0 A σ H e r.out v) :
    Rep G A (σ.set i (some v)) H (e.set i (some r.cell)) ∧ ∀ q, Own (σ.set i (some v)) (e.set i (some r.cell)) q → Own σ e q ∨ (v = .ref q ∧ H0 q = none) := by
  cases r with
  | dat d =>
    obtain ⟨R1, o1⟩ := R.setDat hi ok
    exact ⟨R1, fun q z => .inl (o1 q z)⟩
  | fresh d =>
    obtain ⟨p, rfl, e2, a, n, t⟩ := ok
    obtain ⟨R1, o1⟩ := R.setOwn hi a n t
    refine ⟨R1, fun q z => ?_⟩
    rcases o1 q z with w | w
    · exact .inl w
    · subst w
      exact .inr ⟨rfl, e2⟩
theorem es_par {i j : Nat} {x y : Str} {a b : Expr} {px py pt pos : Pos} {kt k2 : Nat} {pt2 : Pos} {f g : EF} (hc : X.calm = true) (hN : X.N.Nodup) (hi : X.N[i]? = some x) (hj : X.N[j]? = some y) (hij : i ≠ j)
    (hx : X.env.scope.names.lookup x = some .local) (hy : X.env.scope.names.lookup y = some .local) (ha : PE X a (tEv G XR W f)) (hb : PE X b (tEv G XR W g))
    (hw : swappedStores [.Tuple [.Name x px, .Name y py] kt pt] (.Tuple [a, b] k2 pt2) X.env = pure (some [x, y]))
    (hs : swapsWithSole [.Tuple [.Name x px, .Name y py] kt pt] (.Tuple [a, b] k2 pt2) pos.line X.env = pure false := by rfl) (hs1 : starEach [a, b] X.env = (false, eval a X.env) :: starEach [b] X.env := by rfl) (hs2 : starEach [b] X.env = [(false, eval b X.env)] := by rfl) :
    PS X (.Assign [.Tuple [.Name x px, .Name y py] kt pt] (.Tuple [a, b] k2 pt2) pos) (tEx G XR W fx (sPar fx i j f g)) :=
  PS_imp (ps_par hc hN hi hj hij hx hy (pa_cons ha (pa_cons hb pa_nil hs2) hs1) hw hs) fun D σ H ⟨A, env, R, p⟩ => by
    unfold sPar at p
    refine ⟨A, env, R, ?_⟩
    cases hf : f env with
    | none =>
      rw [hf] at p
      exact p
    | some r =>
      rw [hf] at p
      cases r with
      | ex x e1 => exact fun A1 H1 c d R1 F1 xr => p σ A1 H1 c d R1 (Keep.refl _ _) F1 xr
      | ok o1 e1 =>
        rw [bd_ok] at p
        intro A1 H1 R1 F1 v1 ok1
        refine ⟨A1, e1, R1, ?_⟩
        cases hg : g e1 with
        | none =>
          rw [hg] at p
          exact p
        | some r2 =>
          rw [hg] at p
          cases r2 with
          | ex x e2 => exact fun A2 H2 c d R2 F2 xr => p σ A2 H2 c d R2 (Keep.refl _ _) (F1.trans F2) xr
          | ok o2 e2 =>
            rw [bd_ok] at p
            intro A2 H2 R2 F2 v2 ok2
            refine ⟨v1, v2, rfl, ?_⟩
            have ok1' := ok1.mono R1 F2
            -- two new things are two
            have apart : ∀ d1 d2, o1 = .fresh d1 → o2 = .fresh d2 → v1 ≠ v2 := fun d1 d2 q1 q2 z => by
              subst q1 q2
              obtain ⟨p1, w1, _, a1, _, _⟩ := ok1
              obtain ⟨p2, w2, n2, _⟩ := ok2
              rw [w1, w2] at z
              cases z
              obtain ⟨o, eo, _⟩ := R1.tup p1 a1
              rw [n2] at eo
              cases eo
            have ok2' : OutOk G H A2 σ H2 e2 o2 v2 := ok2.base fun p h => F1.none h
            unfold parK at p
            split at p
            · rename_i r1 e3 h3
              obtain ⟨A3, R3, F3, k3, w3, s3, kp3⟩ := rsl_ok R2 (F1.trans F2) ok1' h3
              split at p
              · rename_i r2 e4 h4
                obtain ⟨A4, R4, F4, k4, w4, s4, kp4⟩ := rsl_ok R3 F3 (ok2'.less R2 w3 s3 kp3) h4
                have k3' := k3.less R3 w4 s4 kp4
                split at p
                · exact p.elim
                · rename_i hcond
                  have c1 : i ∉ fx := fun z => hcond (.inl z)
                  have c2 : j ∉ fx := fun z => hcond (.inr (.inl z))
                  have c3 : i < e4.length := Nat.lt_of_not_le fun z => hcond (.inr (.inr (.inl z)))
                  have c4 : j < e4.length := Nat.lt_of_not_le fun z => hcond (.inr (.inr (.inr (.inl z))))
                  obtain ⟨R5, w5⟩ := R4.setRV c3 k3'
                  have k5 : OutOk G H A4 (σ.set i (some v1)) H2 (e4.set i (some r1.cell)) r2.out v2 := by
                    cases r2 with
                    | dat d => exact k4
                    | fresh d =>
                      obtain ⟨q, z1, z2, z3, z4, z5⟩ := k4
                      refine ⟨q, z1, z2, z3, fun z => ?_, z5⟩
                      rcases w5 q z with w | ⟨w, _⟩
                      · exact z4 w
                      · have hv : v1 = v2 := w.trans z1.symm
                        cases r1 with
                        | dat d1 =>
                          have z6 : RepD G A4 H2 d1 (.ref q) := by
                            rw [← z1, ← hv]
                            exact k3'
                          -- a dat cell makes no own thing
                          obtain ⟨R6, w6⟩ := R4.setDat c3 (i := i) (v := v1) k3'
                          exact z4 (w6 q z)
                        | fresh d1 =>
                          have q1 : o1 = .fresh d1 := by
                            cases o1 with
                            | dat _ => cases h3
                            | fresh _ => cases h3; rfl
                            | slot m =>
                              have h3 : (match use e2 (.slot m) with
                                | some (.ok d e2) => some (RV.dat d, e2)
                                | _ => none) = some (RV.fresh d1, e3) := h3
                              split at h3 <;> cases h3
                          have q2 : o2 = .fresh d := by
                            cases o2 with
                            | dat _ => cases h4
                            | fresh _ => cases h4; rfl
                            | slot m =>
                              have h4 : (match use e3 (.slot m) with
                                | some (.ok d e2) => some (RV.dat d, e2)
                                | _ => none) = some (RV.fresh d, e4) := h4
                              split at h4 <;> cases h4
                          exact apart d1 d q1 q2 hv
                  obtain ⟨R6, w6⟩ := R5.setRV (by rw [List.length_set]; exact c4) k5
                  refine p _ A4 H2 R6 ?_ (F4.less fun q z => ?_)
                  · exact (keep_set c1).trans (keep_set c2)
                  · rcases w6 q z with w | ⟨_, w⟩
                    · rcases w5 q w with w' | ⟨_, w'⟩
                      · exact .inl w'
                      · exact .inr w'
                    · exact .inr w
              · exact p.elim
            · exact p.elim
end
end Tk
/-! Tk10: the facts of a body's context; of a callee; chains. -/
namespace Tk
open PySem PySem.Spec PyProof.Rows L2

/-- what a body's derivation leans on -/
structure Bx (G : Tb) (W : WX) (k : Nat) (X : Cx) : Prop where
  calm : X.calm = true
  kk : X.K = G.K
  nd : X.N.Nodup
  room : Room k X.A
  gu : X.A.guards = some []
  tk : Takes X W
  po : PassesOwn (model X.prog X.w) X.A X.env X.xe
theorem Bx.un {G : Tb} {W : WX} {k : Nat} {X : Cx} (B : Bx G W k X) : X.A.units + 150 < cLine := by
  have := B.room.un
  omega
theorem Bx.un64 {G : Tb} {W : WX} {k : Nat} {X : Cx} (B : Bx G W k X) : X.A.units + 64 < cLine := by
  have := B.room.un
  omega
theorem Bx.un65 {G : Tb} {W : WX} {k : Nat} {X : Cx} (B : Bx G W k X) : X.A.units + 65 < cLine := by
  have := B.room.un
  omega
theorem takesF {X : Cx} : Takes X W0 := fun _ _ x => by
  obtain ⟨_, _, _, _, _, _, _, _, _, _, _, _, _, _, _, _, z⟩ := x
  exact z.elim
theorem Bx.blk {G : Tb} {W : WX} {k : Nat} {X : Cx} (B : Bx G W k X) (s : Shared) (H : Hp) (scope : Scope) (cenv : PySem.Env) (fp : List Addr) : Bx G W0 k (X.blk s H scope cenv fp) :=
  ⟨B.calm, B.kk, B.nd, B.room, B.gu, takesF, PassesOwn.never⟩
theorem Bx.of {K : PySem.W.Frag} {G : Tb} (hG : G.K = K) {P : Program} {w : World} {mg : Str → Option Value} {base : Heap} {N : List Str} {qual : Str} {sc : Scope} {f : Addr} {cdv : Value} {A : Around} {outer : List PySem.Env} {s : Shared} {H : Hp} {E : XK} {k : Nat} (nd : N.Nodup)
    (hr : Room k (A.deeper (envOfC qual sc s.heap.objs.size f cdv))) (hg : A.guards = some []) : Bx G (fun c d _ H => E c d H) k (cxOf (L2.CX P w) P w K mg base N qual sc f cdv A outer s H E) :=
  ⟨rfl, hG.symm, nd, hr, hg, takes_of rfl rfl rfl rfl, passes_of rfl⟩

/-- a def as its callers see it -/
structure FnI (P : Program) (w : World) (K : PySem.W.Frag) (mg : Str → Option Value) (base : Heap) (nm : Str) (k : Nat) (ps : List Str) (sp : Sp) (f : Addr) (fd : FuncData) : Prop where
  fn : FnG P w K mg base k f fd ps sp
  mg : mg nm = some (.ref f)
  kp : PySem.W.keepIn K (.ref f) = true
  bd : Binds K fd ps []

section
variable {G : Tb} {XR : XW} {W : WX} {X : Cx} {fx : List Nat}
/-- a < b < c -/
def chK (F F' : D → D → Option RV) (h : EF) (o o' : Out) (e : Env) : Option (Rs Bool) := bd (fin2 F e o o') fun z e1 => match z with
  | .dat (.bl true) => bd (h e1) fun o2 e2 => bd (fin2 F' e2 o' o2) fun z2 e3 => match z2 with
    | .dat (.bl b) => some (.ok b e3)
    | _ => none
  | .dat (.bl false) => some (.ok false e1)
  | _ => none
def tChainF (F F' : D → D → Option RV) (f g h : EF) : TF := fun env => bd (f env) fun o e => bd (g e) fun o' e' => chK F F' h o o' e'
theorem fin2_eq {F : D → D → Option RV} {e e1 : Env} {o o' z : Out} (h : fin2 F e o o' = some (.ok z e1)) : ∃ d d' rv, peek e o = some d ∧ peek e o' = some d' ∧ F d d' = some rv ∧ z = rv.out ∧ e = e1 := by
  unfold fin2 at h
  split at h
  · rename_i d d' hd hd'
    split at h
    · rename_i rv hr
      cases h
      exact ⟨d, d', rv, hd, hd', hr, rfl, rfl⟩
    · cases h
  · cases h
theorem fin2_no {F : D → D → Option RV} {e e1 : Env} {o o' : Out} {x : Exc} (h : fin2 F e o o' = some (.ex x e1)) : False := by
  unfold fin2 at h
  split at h
  · split at h <;> cases h
  · cases h
theorem et_chain {a b c : Expr} {op op' : CmpOp} {r r' : R2} {F F' : D → D → Option RV} {f g h : EF} {pos : Pos} (ho : OpR X (compareOp op) r) (hF : Op2 G r F) (ho' : OpR X (compareOp op') r') (hF' : Op2 G r' F') (ha : PE X a (tEv G XR W f)) (hb : PE X b (tEv G XR W g)) (hc : PE X c (tEv G XR W h))
    (T : PT X (.Compare a [op, op'] [b, c] pos) (tTest (tChain r r' (tEv G XR W f) (tEv G XR W g) (tEv G XR W h)))) : PT X (.Compare a [op, op'] [b, c] pos) (tEvT G XR W (tChainF F F' f g h)) := PT_imp T fun σ H Q ⟨A, env, R, p⟩ => by
  refine (ev_seq R p).imp fun x H1 ⟨A1, e1, o1, R1, ok1, F1, p1⟩ => ?_
  refine (ev_seq R1 p1).imp fun y H2 ⟨A2, e2, o2, R2, ok2, F2, p2⟩ => ?_
  have okx := ok1.mono R1 F2
  unfold chK at p2
  cases hq : fin2 F e2 o1 o2 with
  | none =>
    rw [hq] at p2
    exact p2.elim
  | some rr =>
    cases rr with
    | ex x e3 => exact (fin2_no hq).elim
    | ok z e3 =>
      rw [hq, bd_ok] at p2
      obtain ⟨d, d', rv, h1, h2, h3, rfl, rfl⟩ := fin2_eq hq
      refine hF d d' rv A2 H2 x y _ h3 R2.tup (peek_ok R2 okx h1) (peek_ok R2 ok2 h2) fun v A' H' ex ro => ?_
      have R3 := ex.rep R2
      have F3 : Fr (Own σ e2) A2 H2 (Own σ e2) A' H' := ex.fr _
      cases rv with
      | fresh d => exact p2.elim
      | dat d =>
        cases d <;> try (exact p2.elim)
        rename_i k
        have ek : v = .bl k := by
          have ro : RepD G A' H' (.bl k) v := ro
          unfold RepD at ro
          exact ro
        refine ⟨k, ek, ?_⟩
        cases k with
        | false => exact ⟨false, rfl, p2 A' H' R3 F3⟩
        | true =>
          have p3 := Post.imp F3 (K' := fun b _ _ H' => Q b H') (fun _ _ _ _ _ q => q) p2
          refine (ev_seq R3 p3).imp fun w H4 ⟨A4, e4, o4, R4, ok4, F4, p4⟩ => ?_
          have oky : OutOk G _ A4 σ H4 e4 o2 y := (ok2.mono R2 F3).mono R3 F4
          cases hq2 : fin2 F' e4 o2 o4 with
          | none =>
            rw [hq2] at p4
            exact p4.elim
          | some rr =>
            cases rr with
            | ex x e5 => exact (fin2_no hq2).elim
            | ok z e5 =>
              rw [hq2, bd_ok] at p4
              obtain ⟨d, d', rv, h1, h2, h3, rfl, rfl⟩ := fin2_eq hq2
              refine hF' d d' rv A4 H4 y w _ h3 R4.tup (peek_ok R4 oky h1) (peek_ok R4 ok4 h2) fun v A' H' ex ro => ?_
              cases rv with
              | fresh d => exact p4.elim
              | dat d =>
                cases d <;> try (exact p4.elim)
                rename_i k
                have ek : v = .bl k := by
                  have ro : RepD G A' H' (.bl k) v := ro
                  unfold RepD at ro
                  exact ro
                exact ⟨k, ek, p4 A' H' (ex.rep R4) (ex.fr _)⟩
/-! ### x += e -/
def sAug (fx : List Nat) (i : Nat) (F : D → D → Option RV) (f : EF) : SF := fun env => match (env[i]? : Option (Option Cell)) with
  | some (some _) => bd (f env) fun o e => bd (fin2 F e (.slot i) o) fun z e1 => setK fx i z e1
  | _ => none
def fIAdd : D → D → Option RV
  | .int i, .int j => some (.dat (.int (i + j)))
  | .str a, .str b => if szOk (a.length + b.length) = true then some (.dat (.str (a ++ b))) else none
  | _, _ => none
def rIAdd : R2 := fun x y H Q => (∃ i j, x = .int i ∧ y = .int j ∧ Q (.int (i + j)) H) ∨ ∃ i j, x = .str i ∧ y = .str j ∧ i.length + j.length ≤ sizeLine ∧ Q (.str (i ++ j)) H
end
/-- turns enough for any while here -/
def fuelN : Nat := 2 ^ 4000
theorem while_run {t : TF} {g : SF} (I Q : Env → Prop) (μ : Env → Nat) (h : ∀ env, I env → (t env = some (.ok false env) ∧ Q env) ∨ ∃ e1, t env = some (.ok true env) ∧ g env = some (.ok .next e1) ∧ I e1 ∧ μ e1 < μ env) :
    ∀ (n : Nat) (env : Env), I env → μ env < n → ∃ e', whileG t g n env = some (.ok .next e') ∧ Q e'
  | 0, env, _, hn => absurd hn (Nat.not_lt_zero _)
  | n + 1, env, hi, hn => by
    rcases h env hi with ⟨h1, h2⟩ | ⟨e1, h1, h2, h3, h4⟩
    · refine ⟨env, ?_, h2⟩
      unfold whileG
      rw [h1, bd_ok, if_neg Bool.false_ne_true]
    · obtain ⟨e', h5, h6⟩ := while_run I Q μ h n e1 h3 (by omega)
      refine ⟨e', ?_, h6⟩
      unfold whileG
      rw [h1, bd_ok, if_pos rfl, h2, bd_ok]
      exact h5
theorem for_run {g : GF} {b : SF} (I : Nat → Env → Prop) : ∀ (ds : List D) (k : Nat) (env : Env), (∀ (i : Nat) d env, ds[i]? = some d → I (k + i) env → ∃ e1 e2, g d env = some (.ok () e1) ∧ b e1 = some (.ok .next e2) ∧ I (k + i + 1) e2) → I k env →
    ∃ e', forG g b ds env = some (.ok .next e') ∧ I (k + ds.length) e'
  | [], k, env, _, hi => ⟨env, rfl, hi⟩
  | d :: ds, k, env, h, hi => by
    obtain ⟨e1, e2, h1, h2, h3⟩ := h 0 d env rfl hi
    obtain ⟨e', h5, h6⟩ := for_run I ds (k + 1) e2 (fun i d' env hd hi' => by
      have := h (i + 1) d' env hd (by rw [← Nat.add_assoc, Nat.add_right_comm]; exact hi')
      rw [show k + (i + 1) + 1 = k + 1 + i + 1 by omega] at this
      exact this) h3
    refine ⟨e', ?_, by rw [List.length_cons, ← Nat.add_assoc, Nat.add_right_comm]; exact h6⟩
    unfold forG
    rw [h1, bd_ok, h2, bd_ok]
    exact h5
/-- a comprehension whose turns leave the rest as it is -/
theorem comp_run {vs : List Nat} {g : GF} {t : TF} {f : UF} {E : Env} (E1 : D → Env) (p : D → Bool) (h : D → D) : ∀ (ds acc : List D), (∀ d ∈ ds, g d E = some (.ok () (E1 d)) ∧ (E1 d).length = E.length ∧ t (E1 d) = some (.ok (p d) (E1 d)) ∧ (p d = true → f (E1 d) = some (.ok (h d) (E1 d))) ∧ wipeE (E1 d) vs = E) →
    acc.length + ds.length ≤ 1000000 → compG vs g t f ds acc E = some (.ok (acc ++ (ds.filter p).map h) E)
  | [], acc, _, _ => by
    unfold compG
    simp
  | d :: ds, acc, hh, hl => by
    obtain ⟨h1, h2, h3, h4, h5⟩ := hh d List.mem_cons_self
    rw [List.length_cons] at hl
    unfold compG
    rw [h1, bd_ok, if_pos h2, h3, bd_ok]
    cases hp : p d with
    | false =>
      rw [if_neg Bool.false_ne_true, h5, comp_run E1 p h ds acc (fun d' hd => hh d' (List.mem_cons_of_mem _ hd)) (by omega)]
      simp [hp]
    | true =>
      rw [if_pos rfl, h4 hp, bd_ok, if_pos (show szOk acc.length = true from decide_eq_true (by omega)), h5, comp_run E1 p h ds (acc ++ [h d]) (fun d' hd => hh d' (List.mem_cons_of_mem _ hd)) (by simp; omega)]
      simp [hp]
end Tk
/-! Tk11: what is never reached; in, all, any, list, tuple, texts in order, dict displays. -/
namespace Tk
open PySem PySem.Spec PyProof.Rows L2

section
variable {G : Tb} {XR : XW} {W : WX} {X : Cx} {fx : List Nat}

/-! ### no promise -/
def cBot : EF := fun _ => none
def sBot : SF := fun _ => none
/-! ### in -/
def oneSign : D → Option Nat
  | .str x => match x.cps.toList with
    | [c] => some c
    | _ => none
  | _ => none
theorem oneSign_of {d : D} {c : Nat} (h : oneSign d = some c) : d = .str ⟨#[c]⟩ := by
  cases d <;> try (cases h; done)
  rename_i x
  obtain ⟨⟨l⟩⟩ := x
  unfold oneSign at h
  simp only at h
  split at h
  · cases h
    rfl
  · cases h
def flatD : D → Bool
  | .non => true
  | .bl _ => true
  | .int _ => true
  | .str _ => true
  | _ => false
def flD : D → V
  | .non => .non
  | .bl b => .bl b
  | .int i => .int i
  | .str x => .str x
  | _ => .non
theorem flat_v {A : Hid} {H : Hp} {d : D} {v : V} (f : flatD d = true) (h : RepT G A H d v) : v = flD d ∧ flatV v = true := by
  cases d <;> try (cases f; done)
  · cases t_non h
    exact ⟨rfl, rfl⟩
  · cases t_bl h
    exact ⟨rfl, rfl⟩
  · cases t_int h
    exact ⟨rfl, rfl⟩
  · cases t_str h
    exact ⟨rfl, rfl⟩
theorem flats_v {A : Hid} {H : Hp} : ∀ {l : List D} {vs : List V}, l.all flatD = true → RepDs G A H l vs → vs = l.map flD ∧ vs.all flatV = true
  | [], _, _, h => by
    obtain rfl := h.inv0
    exact ⟨rfl, rfl⟩
  | d :: l, _, f, h => by
    obtain ⟨v, r, rfl, h1, h2⟩ := h.inv
    rw [List.all_cons, Bool.and_eq_true] at f
    obtain ⟨e1, e2⟩ := flat_v f.1 (.inl h1)
    obtain ⟨e3, e4⟩ := flats_v f.2 h2
    subst e1 e3
    exact ⟨rfl, by rw [List.all_cons, e2, e4]; rfl⟩
/-- what stands in d: its parts -/
def partsD : D → Option (List D)
  | .tup l => some l
  | .lst l => some l
  | _ => none
def fInS (neg : Bool) (d e : D) : Option RV := match oneSign d, e with
  | some c, .str z => some (.dat (.bl (neg ^^ decide (c ∈ z.cps.toList))))
  | _, _ => none
def fInF (neg : Bool) (d e : D) : Option RV := match partsD e with
  | some l => if flatD d = true ∧ l.all flatD = true then some (.dat (.bl (neg ^^ inV (flD d) (l.map flD)))) else none
  | none => none
def fInD (neg : Bool) (d e : D) : Option RV := match toPy d, e, toPy e with
  | some p, .lst _, some (.list ps) => if SeqAt.shaped p = true ∧ SeqAt.shaped (.list ps) = true then some (.dat (.bl (neg ^^ ps.any fun z => PyData.eqv z p))) else none
  | _, _, _ => none
theorem fInS_of {neg : Bool} {d e : D} {rv : RV} (h : fInS neg d e = some rv) : ∃ c z, d = .str ⟨#[c]⟩ ∧ e = .str z ∧ rv = .dat (.bl (neg ^^ decide (c ∈ z.cps.toList))) := by
  unfold fInS at h
  cases hc : oneSign d with
  | none =>
    rw [hc] at h
    cases h
  | some c =>
    rw [hc] at h
    cases e <;> try (cases h; done)
    cases h
    exact ⟨c, _, oneSign_of hc, rfl, rfl⟩
theorem fInD_of {neg : Bool} {d e : D} {rv : RV} (h : fInD neg d e = some rv) : ∃ p ps, toPy d = some p ∧ toPy e = some (.list ps) ∧ SeqAt.shaped p = true ∧ SeqAt.shaped (.list ps) = true ∧ rv = .dat (.bl (neg ^^ ps.any fun z => PyData.eqv z p)) := by
  unfold fInD at h
  split at h
  · rename_i h1 h2
    split at h
    · rename_i hs
      cases h
      exact ⟨_, _, h1, h2, hs.1, hs.2, rfl⟩
    · cases h
  · cases h
def orE {α : Type} (a b : Option α) : Option α := match a with
  | some x => some x
  | none => b
def fIn (neg : Bool) (d e : D) : Option RV := orE (fInS neg d e) (orE (fInF neg d e) (fInD neg d e))
def rInAll (K : PySem.W.Frag) : R2 := fun x y H Q => (∃ (c : Nat) (z : Str), x = .str ⟨#[c]⟩ ∧ y = .str z ∧ Q (.bl (decide (c ∈ z.cps.toList))) H) ∨ rIn K false x y H Q ∨ rInD K x y H Q
def rNotInAll (K : PySem.W.Frag) : R2 := fun x y H Q => (∃ (c : Nat) (z : Str), x = .str ⟨#[c]⟩ ∧ y = .str z ∧ Q (.bl (!decide (c ∈ z.cps.toList))) H) ∨ rIn K true x y H Q ∨ rNotInD K x y H Q
theorem op_inAll (hu : X.A.units + 65 < cLine) : OpR X (compareOp .In) (rInAll X.K) := op_in_sign.or (op_in_seq.or (op_inD hu))
theorem orE_cases {α : Type} {a b : Option α} {x : α} (h : orE a b = some x) : a = some x ∨ b = some x := by
  cases a with
  | none => exact .inr h
  | some y => exact .inl h
theorem parts_v {A : Hid} {H : Hp} {e : D} {l : List D} {y : V} (h : partsD e = some l) (r : RepT G A H e y) : ∃ p vs, y = .ref p ∧ (SqL G.K H p vs ∨ SqT G.K H p vs) ∧ RepDs G A H l vs := by
  cases e <;> try (cases h; done)
  · cases h
    obtain ⟨a, vs, e1, s, r⟩ := t_tup r
    exact ⟨a, vs, e1, .inr s, r⟩
  · cases h
    obtain ⟨a, vs, e1, s, r⟩ := t_lst r
    exact ⟨a, vs, e1, .inl (SqL.of s), r⟩
theorem o_in : Op2 G (rInAll G.K) (fIn false) := fun d d' rv A H x y Q e t h1 h2 q => by
  rcases orE_cases e with e | e
  · obtain ⟨c, z, rfl, rfl, rfl⟩ := fInS_of e
    exact .inl ⟨c, z, t_str h1, t_str h2, q _ A H (Ext.refl t) (by rw [Bool.false_xor]; exact rvB)⟩
  rcases orE_cases e with e | e
  · unfold fInF at e
    split at e
    · rename_i l hl
      split at e
      · rename_i hf
        cases e
        obtain ⟨p, vs, e1, s, r⟩ := parts_v hl h2
        obtain ⟨f1, f2⟩ := flat_v hf.1 h1
        obtain ⟨f3, f4⟩ := flats_v hf.2 r
        subst f3
        refine .inr (.inl ⟨p, _, e1, s, f2, f4, q _ A H (Ext.refl t) ?_⟩)
        rw [Bool.false_xor, f1]
        exact rvB
      · cases e
    · cases e
  · obtain ⟨p, ps, hp, hps, s1, s2, rfl⟩ := fInD_of e
    exact .inr (.inr ⟨p, ps, dp_t hp h1, dp_t hps h2, s1, s2, q _ A H (Ext.refl t) (by rw [Bool.false_xor]; exact rvB)⟩)
/-! ### all, any -/
def blOf : D → Option Bool
  | .bl b => some b
  | _ => none
def blsOf : List D → Option (List Bool)
  | [] => some []
  | d :: l => match blOf d, blsOf l with
    | some b, some r => some (b :: r)
    | _, _ => none
theorem bls_v {A : Hid} {H : Hp} : ∀ {l : List D} {bs : List Bool} {vs : List V}, blsOf l = some bs → RepDs G A H l vs → vs = bs.map V.bl
  | [], _, _, e, h => by
    obtain rfl := h.inv0
    cases e
    rfl
  | d :: l, _, _, e, h => by
    obtain ⟨v, r, rfl, h1, h2⟩ := h.inv
    unfold blsOf at e
    split at e
    · rename_i b bs hb hr
      cases e
      cases d <;> try (cases hb; done)
      cases hb
      cases t_bl (.inl h1)
      rw [bls_v hr h2]
      rfl
    · cases e
def fAll : D → Option RV
  | .lst l => (blsOf l).map fun bs => .dat (.bl (bs.all id))
  | _ => none
def fAny : D → Option RV
  | .lst l => (blsOf l).map fun bs => .dat (.bl (bs.any id))
  | _ => none
theorem o_all : Cb1 G (rAll G.K) fAll := fun d rv A H x Q e t h q => by
  cases d <;> try (cases e; done)
  rename_i l
  have e : ((blsOf l).map fun bs => RV.dat (.bl (bs.all id))) = some rv := e
  cases hb : blsOf l with
  | none =>
    rw [hb] at e
    cases e
  | some bs =>
    rw [hb] at e
    cases e
    obtain ⟨a, vs, e1, s, r⟩ := t_lst h
    cases bls_v hb r
    exact ⟨a, bs, by rw [e1], SqL.of s, q _ A H (Ext.refl t) rvB⟩
theorem o_any : Cb1 G (rAny G.K) fAny := fun d rv A H x Q e t h q => by
  cases d <;> try (cases e; done)
  rename_i l
  have e : ((blsOf l).map fun bs => RV.dat (.bl (bs.any id))) = some rv := e
  cases hb : blsOf l with
  | none =>
    rw [hb] at e
    cases e
  | some bs =>
    rw [hb] at e
    cases e
    obtain ⟨a, vs, e1, s, r⟩ := t_lst h
    cases bls_v hb r
    exact ⟨a, bs, by rw [e1], SqL.of s, q _ A H (Ext.refl t) rvB⟩

/-! ### list, tuple -/
def fList : D → Option RV
  | .lst l => some (.fresh (.lst l))
  | .tup l => some (.fresh (.lst l))
  | _ => none
def fTuple : D → Option RV
  | .lst l => some (.dat (.tup l))
  | .tup l => some (.dat (.tup l))
  | _ => none
theorem o_list : Cb1 G (fun xs H Q => ∃ p ys, xs = [.ref p] ∧ (SqL G.K H p ys ∨ SqT G.K H p ys) ∧ ∀ l, H l = none → Q (.ref l) (upd H l (.lst ys))) fList := fun d rv A H x Q e t h q => by
  cases d <;> try (cases e; done)
  · cases e
    obtain ⟨a, vs, e1, s, r⟩ := t_tup h
    exact ⟨a, vs, by rw [e1], .inr s, fun l n => q _ _ _ (Ext.newLst t n vs) (rv_lst t r n)⟩
  · cases e
    obtain ⟨a, vs, e1, s, r⟩ := t_lst h
    exact ⟨a, vs, by rw [e1], .inl (SqL.of s), fun l n => q _ _ _ (Ext.newLst t n vs) (rv_lst t r n)⟩
theorem o_tuple : Cb1 G (rTupleF G.K) fTuple := fun d rv A H x Q e t h q => by
  cases d <;> try (cases e; done)
  · cases e
    obtain ⟨a, vs, e1, s, r⟩ := t_tupF h
    exact ⟨a, vs, by rw [e1], .inr ⟨s.t, q _ A H (Ext.refl t) (by unfold RvOk RepD; exact ⟨a, vs, rfl, s, r⟩)⟩⟩
  · cases e
    obtain ⟨a, vs, e1, s, r⟩ := t_lst h
    exact ⟨a, vs, by rw [e1], .inl ⟨SqL.of s, fun l o n hd => q _ _ _ (Ext.newTup t n _) (rv_tup t r n hd)⟩⟩

/-! ### texts in order -/
def fCmp (F : D → D → Option RV) (S : Str → Str → Bool) (d e : D) : Option RV := match twoS d e with
  | some (x, y) => some (.dat (.bl (S x y)))
  | none => F d e
abbrev fLtA := fCmp fLt fun i j => decide (i.cps.toList < j.cps.toList)
abbrev fGtA := fCmp fGt fun i j => decide (j.cps.toList < i.cps.toList)
abbrev fLeA := fCmp fLe fun i j => !decide (j.cps.toList < i.cps.toList)
abbrev fGeA := fCmp fGe fun i j => !decide (i.cps.toList < j.cps.toList)
abbrev rCmp (S : Str → Str → Bool) (r : R2) : R2 := fun x y H Q => (∃ i j, x = .str i ∧ y = .str j ∧ Q (.bl (S i j)) H) ∨ r x y H Q
/-! ### {} -/
def cDct0 : EF := fun env => some (.ok (.fresh (.dct [] [])) env)
theorem ev_dct0 {pos : Pos} : PE X (.Dict [] [] pos) (tEv G XR W cDct0) := PE_imp pe_dnewK fun σ H Q ⟨A, env, R, p⟩ => fun l n => by
  have x : Ext A H (fun a => A a ∨ a = l) (upd H l (.dK [])) := Ext.newOwn R.tup n (fun _ z => by cases z) (fun _ _ z => by cases z)
  refine p _ _ (x.rep R) (x.fr _) (.ref l) ⟨l, rfl, n, .inr rfl, ?_, [], upd_same, rfl, .nil⟩
  intro o
  have o2 := R.own_some o
  obtain ⟨z, hz⟩ := o2
  rw [n] at hz
  cases hz
end
end Tk
/-! Tk12: raise, try, isinstance of a caught exception. -/
namespace Tk
open PySem PySem.Spec PyProof.Rows L2

def Tb.at (G : Tb) (z : Option (Addr × Value × Option Addr)) : Tb := { G with exa := z }
section
variable {G : Tb} {z : Option (Addr × Value × Option Addr)} {A : Hid} {H : Hp}
mutual
theorem RepD_at : ∀ (d : D) (v : V), RepD (G.at z) A H d v ↔ RepD G A H d v
  | .non, v => by unfold RepD; exact Iff.rfl
  | .bl _, v => by unfold RepD; exact Iff.rfl
  | .int _, v => by unfold RepD; exact Iff.rfl
  | .str _, v => by unfold RepD; exact Iff.rfl
  | .fn _, v => by unfold RepD; exact Iff.rfl
  | .scr _, v => by unfold RepD; exact Iff.rfl
  | .tup l, v => by
    unfold RepD
    exact exists_congr fun a => exists_congr fun vs => and_congr Iff.rfl (and_congr Iff.rfl (RepDs_at l vs))
  | .lst l, v => by
    unfold RepD
    exact exists_congr fun a => exists_congr fun vs => and_congr Iff.rfl (and_congr Iff.rfl (RepDs_at l vs))
  | .dct ks l, v => by
    unfold RepD
    exact exists_congr fun a => exists_congr fun vs => and_congr Iff.rfl (and_congr Iff.rfl (and_congr Iff.rfl (and_congr Iff.rfl (RepDs_at l vs))))
  | .obj c l, v => by
    unfold RepD
    exact exists_congr fun a => exists_congr fun C => exists_congr fun dx => exists_congr fun ns => exists_congr fun vs => and_congr Iff.rfl (and_congr Iff.rfl (and_congr Iff.rfl (and_congr Iff.rfl (and_congr Iff.rfl (RepDs_at l vs)))))
theorem RepDs_at : ∀ (l : List D) (vs : List V), RepDs (G.at z) A H l vs ↔ RepDs G A H l vs
  | [], vs => by unfold RepDs; exact Iff.rfl
  | d :: l, vs => by
    unfold RepDs
    exact exists_congr fun v => exists_congr fun r => and_congr Iff.rfl (and_congr (RepD_at d v) (RepDs_at l r))
end
theorem RepTop_at (d : D) (p : Addr) : RepTop (G.at z) A H d p ↔ RepTop G A H d p := by
  cases d with
  | lst l => exact exists_congr fun vs => and_congr Iff.rfl (RepDs_at l vs)
  | dct ks l => exact exists_congr fun vs => and_congr Iff.rfl (and_congr Iff.rfl (RepDs_at l vs))
  | obj c l => exact exists_congr fun C => exists_congr fun dx => exists_congr fun ns => exists_congr fun vs => and_congr Iff.rfl (and_congr Iff.rfl (and_congr Iff.rfl (RepDs_at l vs)))
  | _ => exact Iff.rfl
theorem XFs_at (x : Exc) (d : Option Addr) : XFs (G.at z) A H x d ↔ XFs G A H x d := by
  unfold XFs
  exact or_congr Iff.rfl (exists_congr fun C => exists_congr fun ns => exists_congr fun p => exists_congr fun vs => and_congr Iff.rfl (and_congr Iff.rfl (and_congr Iff.rfl (and_congr Iff.rfl (and_congr Iff.rfl (RepDs_at _ vs))))))
end

theorem kit_own {K : PySem.W.Frag} {C c : Addr} {b : Bool} (h1 : PySem.W.isClsIn K c = true) (h2 : PySem.W.typeIn K (.ref c) = some (.type "type")) (h3 : PySem.W.subIn K (.ref C) (.ref c) = some b) (hs : PySem.W.subIn K (.ref C) (.ref C) = some true) : PySem.W.kitOne K (.ref C) (.ref c) = some b := by
  unfold PySem.W.kitOne
  by_cases e : C = c
  · subst e
    rw [hs] at h3
    cases h3
    exact if_pos (beq_self_eq_true _)
  · rw [if_neg (fun z => e (Value.ref.inj (beq_iff_eq.mp z)))]
    have h1' : (PySem.W.clsIn K c).isSome = true := h1
    simp [PySem.W.kitCls, h1', h2, h3]
theorem kit_blt {K : PySem.W.Frag} {C : Addr} {T : String} {b : Bool} (hm : PySem.W.kitMeta T = true) (h3 : PySem.W.subIn K (.ref C) (.type T) = some b) : PySem.W.kitOne K (.ref C) (.type T) = some b := by
  simp [PySem.W.kitOne, PySem.W.kitCls, hm, h3]
theorem exm_own {K : PySem.W.Frag} {C c : Addr} {b : Bool} (hb : PySem.W.subIn K (.ref c) (.type "BaseException") = some true) (h1 : PySem.W.isClsIn K c = true) (h2 : PySem.W.typeIn K (.ref c) = some (.type "type")) (h3 : PySem.W.subIn K (.ref C) (.ref c) = some b) : PySem.W.exmOne K (.ref C) (.ref c) = some b := by
  unfold PySem.W.exmOne
  have hb' : (PySem.W.subIn K (.ref c) (.type "BaseException") == some true) = true := by rw [hb] <;> rfl
  rw [if_pos hb']
  have h1' : (PySem.W.clsIn K c).isSome = true := h1
  simp [PySem.W.kitCls, h1', h2, h3]
theorem vals_cls : ∀ (as : List Addr) {us : List Value}, Vals (as.map V.ref) us → us = as.map Value.ref
  | [], us, h => by
    cases h
    rfl
  | a :: as, us, h => by
    cases h with
    | cons h1 h2 =>
      rw [vals_cls as h2, show _ = Value.ref a from h1]
      rfl
section
variable {G : Tb} {W : WX} {X : Cx} {fx : List Nat}

/-! ### raise C('..') -/
def sRaise (k : Nat) : SF := fun env => some (.ex ⟨k, []⟩ env)
theorem es_raise {C : Addr} {bmB : List Value} {B newId initId : String} {x m : Str} {j k : Nat} {p p2 pos pos' : Pos} (hc : X.calm = true) (tk : Takes X W) (F : ExcBaseFacts B newId initId bmB) (q : PySem.W.excIn X.K C bmB newId = true) (gC : X.mg x = some (.ref C)) (kC : PySem.W.keepIn X.K (.ref C) = true) (r : Raises X (.ref C)) (hg : Gl X x)
    (hcl : ∃ ns, G.cls k = some (C, ns)) (hdb : (x == ("__debug__" : Str)) = false := by decide) : PS X (.Raise (some (.Call (.Name x p) [.Constant (.str m) j p2] [] pos)) none pos') (tEx G XRx W fx (sRaise k)) :=
  PS_imp (ps_raise hc tk (pmk_own F q gC kC r hg hdb)) fun D σ H ⟨A, env, R, p⟩ => by
    obtain ⟨ns, hcl⟩ := hcl
    exact p σ A H (.ref C) none R (Keep.refl _ _) (Fr.refl _ _ _) ⟨C, ns, hcl, rfl, .inl ⟨rfl, rfl⟩⟩

/-! ### try -/
def noX : Option Cell → Bool
  | some (.exc _) => false
  | _ => true
def outX (i : Nat) : Fl → Bool
  | .ret (.slot j) => j != i
  | _ => true
def leaveX (i : Nat) : Option (Rs Fl) → Option (Rs Fl)
  | some (.ok fl e) => if outX i fl = true ∧ (e.set i none).all noX = true then some (.ok fl (e.set i none)) else none
  | _ => none
def sTryAs (i : Nat) (m : Nat → Option Bool) (body suite : SF) : SF := fun env => match body env with
  | some (.ex x e) => match m x.cls with
    | some true => match (e[i]? : Option (Option Cell)) with
      | some none => if e.all noX = true then leaveX i (suite (e.set i (some (.exc x)))) else none
      | _ => none
    | some false => some (.ex x e)
    | none => none
  | r => r

theorem get_noX {e : Env} (h : e.all noX = true) {i : Nat} {c : Cell} (k : e[i]? = some (some c)) : noX (some c) = true := List.all_eq_true.mp h _ (List.mem_of_getElem? k)
theorem Fr.lessO {O A O' A' O2 : Hid} {H H' : Hp} (f : Fr O A H O' A' H') (h : ∀ p, O2 p → O' p) : Fr O A H O2 A' H' := ⟨f.keep, fun p q => f.own p (h p q), f.dom⟩
theorem Fr.moreO {O A O' A' O1 : Hid} {H H' : Hp} (f : Fr O A H O' A' H') (h : ∀ p, O p → O1 p) : Fr O1 A H O' A' H' := ⟨fun a o e n => f.keep a o e fun z => n (h a z), fun p q => (f.own p q).imp (h p) id, f.dom⟩
theorem own_clear {σ : L2.St} {e : Env} {i : Nat} {p : Addr} (h : Own (σ.set i none) (e.set i none) p) : Own σ e p := by
  obtain ⟨j, d, k1, k2⟩ := h
  by_cases hj : i = j
  · subst hj
    exfalso
    rw [List.getElem?_set] at k1
    split at k1
    · split at k1 <;> cases k1
    · exact absurd rfl (by assumption)
  · rw [get_set_ne hj] at k1
    rw [List.getElem?_set_ne hj] at k2
    exact ⟨j, d, k1, k2⟩
theorem own_clear' {σ : L2.St} {e : Env} {i : Nat} {p : Addr} (h : Own σ (e.set i none) p) : Own σ e p := by
  obtain ⟨j, d, k1, k2⟩ := h
  by_cases hj : i = j
  · subst hj
    exfalso
    rw [List.getElem?_set] at k1
    split at k1
    · split at k1 <;> cases k1
    · exact absurd rfl (by assumption)
  · rw [get_set_ne hj] at k1
    exact ⟨j, d, k1, k2⟩
/-- into a suite -/
theorem Rep.toX {z : Addr × Value × Option Addr} {σ : L2.St} {A : Hid} {H : Hp} {e : Env} {i : Nat} {x : Exc} {C : Addr} {ns : List Str} (R : Rep G A σ H e) (h0 : e.all noX = true) (hi : e[i]? = some none) (hc : G.cls x.cls = some (C, ns)) (hz : z.2.1 = .ref C) (xf : XFs G A H x z.2.2) :
    Rep (G.at (some z)) A (σ.set i (some (.ref z.1))) H (e.set i (some (.exc x))) := by
  have hl : i < e.length := (List.getElem?_eq_some_iff.mp hi).1
  have hl2 : i < σ.length := by rw [← R.len]; exact hl
  refine ⟨by rw [List.length_set, List.length_set]; exact R.len, R.tup, fun j c k => ?_, fun j1 j2 d1 d2 w k1 k2 k3 k4 => ?_⟩
  · by_cases hj : i = j
    · subst hj
      rw [get_set_self hi] at k
      cases k
      refine ⟨.ref z.1, by rw [List.getElem?_set_self hl2], z.1, C, z.2.2, ns, rfl, ?_, hc, (XFs_at x _).mpr xf⟩
      show some z = some (z.1, .ref C, z.2.2)
      rw [← hz]
    · rw [get_set_ne hj] at k
      obtain ⟨v, e1, c1⟩ := R.cell j c k
      refine ⟨v, by rw [List.getElem?_set_ne hj]; exact e1, ?_⟩
      cases c with
      | dat d => exact (RepD_at d v).mpr c1
      | own d =>
        obtain ⟨p, e2, a, t⟩ := c1
        exact ⟨p, e2, a, (RepTop_at d p).mpr t⟩
      | exc y => exact absurd (get_noX h0 k) Bool.false_ne_true
  · have g : ∀ (j : Nat) (d : D) (w : V), (e.set i (some (.exc x)))[j]? = some (some (Cell.own d)) → (σ.set i (some (.ref z.1)))[j]? = some (some w) → e[j]? = some (some (.own d)) ∧ σ[j]? = some (some w) := fun j d w k k' => by
      by_cases hj : i = j
      · subst hj
        rw [get_set_self hi] at k
        cases k
      · rw [get_set_ne hj] at k
        rw [List.getElem?_set_ne hj] at k'
        exact ⟨k, k'⟩
    exact R.inj j1 j2 d1 d2 w (g _ _ _ k1 k3).1 (g _ _ _ k2 k4).1 (g _ _ _ k1 k3).2 (g _ _ _ k2 k4).2
theorem own_toX {z : V} {σ : L2.St} {e : Env} {i : Nat} {x : Exc} (hi : e[i]? = some none) {p : Addr} (h : Own (σ.set i (some z)) (e.set i (some (.exc x))) p) : Own σ e p := by
  obtain ⟨j, d, k1, k2⟩ := h
  by_cases hj : i = j
  · subst hj
    rw [get_set_self hi] at k1
    cases k1
  · rw [get_set_ne hj] at k1
    rw [List.getElem?_set_ne hj] at k2
    exact ⟨j, d, k1, k2⟩
/-- out of a suite; w: whether the slot is cleared too -/
theorem Rep.ofX {z : Option (Addr × Value × Option Addr)} {σ σ' : L2.St} {A : Hid} {H : Hp} {e : Env} {i : Nat} (R : Rep (G.at z) A σ H e) (h : (e.set i none).all noX = true) (hσ : σ' = σ ∨ σ' = σ.set i none) : Rep G A σ' H (e.set i none) := by
  have hs : ∀ j, i ≠ j → σ'[j]? = σ[j]? := fun j hj => by
    rcases hσ with rfl | rfl
    · rfl
    · rw [List.getElem?_set_ne hj]
  have ne : ∀ (j : Nat) (c : Cell), (e.set i none)[j]? = some (some c) → i ≠ j ∧ e[j]? = some (some c) := fun j c k => by
    by_cases hj : i = j
    · subst hj
      exfalso
      rw [List.getElem?_set] at k
      split at k
      · split at k <;> cases k
      · exact absurd rfl (by assumption)
    · rw [get_set_ne hj] at k
      exact ⟨hj, k⟩
  refine ⟨?_, R.tup, fun j c k => ?_, fun j1 j2 d1 d2 w k1 k2 k3 k4 => ?_⟩
  · rw [List.length_set, R.len]
    rcases hσ with rfl | rfl
    · rfl
    · rw [List.length_set]
  · have nx := get_noX h k
    obtain ⟨hj, k'⟩ := ne j c k
    obtain ⟨v, e1, c1⟩ := R.cell j c k'
    refine ⟨v, by rw [hs j hj]; exact e1, ?_⟩
    cases c with
    | dat d => exact (RepD_at d v).mp c1
    | own d =>
      obtain ⟨p, e2, a, t⟩ := c1
      exact ⟨p, e2, a, (RepTop_at d p).mp t⟩
    | exc y => exact absurd nx Bool.false_ne_true
  · obtain ⟨n1, m1⟩ := ne _ _ k1
    obtain ⟨n2, m2⟩ := ne _ _ k2
    rw [hs _ n1] at k3
    rw [hs _ n2] at k4
    exact R.inj j1 j2 d1 d2 w m1 m2 k3 k4

/-- the context of a try's body, and of a suite -/
theorem Bx.tr {k : Nat} (B : Bx G W k X) {W' : WX} {pn : List (Addr × Obj)} {xe : Value → Shared → Prop} (tk : Takes (X.tr pn xe) W') (po : PassesOwn (model X.prog X.w) X.A X.env xe) : Bx G W' k (X.tr pn xe) := ⟨B.calm, B.kk, B.nd, B.room, B.gu, tk, po⟩
/-- what is left of Bx in a suite -/
structure Bs (G : Tb) (X : Cx) : Prop where
  kk : X.K = G.K
  nd : X.N.Nodup
  un : X.A.units + 150 < cLine
  gu : X.A.guards = some []
theorem Bs.un64 {G : Tb} {X : Cx} (B : Bs G X) : X.A.units + 64 < cLine := by
  have := B.un
  omega
theorem Bs.un65 {G : Tb} {X : Cx} (B : Bs G X) : X.A.units + 65 < cLine := by
  have := B.un
  omega
theorem Bx.suite {k : Nat} (B : Bx G W k X) (a : Addr) (pn : List (Addr × Obj)) (z : Option (Addr × Value × Option Addr)) : Bs (G.at z) (X.suite a pn) := ⟨B.kk, B.nd, B.un, B.gu⟩

/-! ### isinstance(e, C), isinstance(e, (C, ..)) -/
def rIsX (K : PySem.W.Frag) (a : Addr) (cls : Value) (d : Option Addr) : List V → Hp → VK → Prop := fun xs H Q => ∃ (c : V) (E : Addr) (b : Bool), xs = [.ref a, c] ∧ cls = .ref E ∧ ExcC K E ∧ (d = none ∨ ∃ p fs, d = some p ∧ H p = some (.xd fs)) ∧
  ((∃ cv, (∀ u, RelV c u → u = cv) ∧ PySem.W.kitOne K (.ref E) cv = some b) ∨ ∃ q vs cvs, c = .ref q ∧ SqT K H q vs ∧ (∀ us, Vals vs us → us = cvs) ∧ PySem.W.kitAny K (.ref E) cvs = some b) ∧ Q (.bl b) H
theorem call_isX {a : Addr} {cls : Value} {d : Option Addr} {oe : Obj} {pn : List (Addr × Obj)} (hz : Zc cls d oe) (hf : ∃ vs, oe.data = .fields vs) : CallR (X.suite a ((a, oe) :: pn)) (.builtin "isinstance") (rIsX X.K a cls d) := by
  intro pins s σ H xs us Q I r h
  obtain ⟨c, E, b, rfl, rfl, ec, hd, hk, q⟩ := h
  obtain ⟨hget, _⟩ := I.pin (a, oe) (List.mem_append.mpr (.inl List.mem_cons_self))
  obtain ⟨fvs, hfv⟩ := hf
  have hno : PySem.W.notCls oe = true := by
    unfold PySem.W.notCls
    rw [hfv]
  have J : ∃ od, PySem.W.InstAt s.heap a oe E od := by
    rcases hd with hd | ⟨p, fs, hd, hp⟩
    · refine ⟨none, hget, hz.1, hno, ?_⟩
      rw [hz.2, hd]
      trivial
    · have ho : ObjOk X.prog X.w H s.heap p (.xd fs) := I.hok p _ hp
      obtain ⟨mA, hns, _⟩ := ho
      obtain ⟨od, hod, _⟩ := lookIn_ns hns
      refine ⟨some od, hget, hz.1, hno, ?_⟩
      rw [hz.2, hd]
      exact hod
  obtain ⟨od, J⟩ := J
  have hcl : (PySem.W.clsIn X.K E).isSome = true := by
    obtain ⟨cd, hcd, _⟩ := PySem.W.any_some ec.hd
    rw [hcd]
    rfl
  have Z := PySem.W.kitx_exc (x := a) (ox := oe) (od := od) hcl ec.hg ec.hk ec.hs ec.ha ec.hn ec.ht ec.hm
  cases r with
  | cons rx r1 =>
    cases r1 with
    | cons rc r2 =>
      cases r2
      cases rx
      rcases hk with ⟨cv, hcv, e⟩ | ⟨t, vs, cvs, rfl, sq, hv, e⟩
      · have ev := hcv _ rc
        subst ev
        exact PySem.W.kia_one Z I.kIn J e (fun z => nomatch z) fun tk => ⟨.bl b, H, I.kept (t' := tk) fun _ _ z => z, rfl, q⟩
      · cases rc
        obtain ⟨its, rv, ⟨o, ho, hc, n, hdat⟩, _⟩ := I.tuple sq
        have ev := hv _ rv
        subst ev
        obtain ⟨oc, od', oda, osl⟩ := o
        dsimp only at hc hdat
        subst hc hdat
        exact PySem.W.kia_tup Z I.kIn J ho e (fun z => nomatch z) fun tk => ⟨.bl b, H, I.kept (t' := tk) fun _ _ z => z, rfl, q⟩
def cIsE (i : Nat) (m : Nat → Option Bool) : EF := fun env => match (env[i]? : Option (Option Cell)) with
  | some (some (.exc x)) => match m x.cls with
    | some b => some (.ok (.dat (.bl b)) env)
    | none => none
  | _ => none
theorem xfs_d {A : Hid} {H : Hp} {x : Exc} {d : Option Addr} (h : XFs G A H x d) : d = none ∨ ∃ p fs, d = some p ∧ H p = some (.xd fs) := by
  rcases h with ⟨_, h⟩ | ⟨_, _, p, _, h, _, _, hp, _⟩
  · exact .inl h
  · exact .inr ⟨p, _, h, hp⟩
section
variable {a : Addr} {cls : Value} {d : Option Addr} {oe : Obj} {pn : List (Addr × Obj)} {i : Nat} {m : Nat → Option Bool} {e0 ce : Expr} {p pos : Pos}
theorem ev_isE {cv : V} {cu : Value} (hk : X.K = G.K) (hz : Zc cls d oe) (hf : ∃ vs, oe.data = .fields vs) (hX : ∀ k C ns b, m k = some b → G.cls k = some (C, ns) → ExcC G.K C) (hg : Gl X "isinstance") (hmi : X.mg "isinstance" = none) (hv : bootBuiltins "isinstance" = some (.builtin "isinstance"))
    (hn : PE (X.suite a ((a, oe) :: pn)) e0 (tVar i)) (hce : PE (X.suite a ((a, oe) :: pn)) ce (tC cv)) (hcv : ∀ u, RelV cv u → u = cu) (hm : ∀ k C ns b, G.cls k = some (C, ns) → m k = some b → PySem.W.kitOne G.K (.ref C) cu = some b)
    (h1 : starEach [e0, ce] X.env = (false, eval e0 X.env) :: starEach [ce] X.env := by rfl) (h2 : starEach [ce] X.env = (false, eval ce X.env) :: starEach [] X.env := by rfl) :
    PE (X.suite a ((a, oe) :: pn)) (.Call (.Name "isinstance" p) [e0, ce] [] pos) (tEv (G.at (some (a, cls, d))) XRx W (cIsE i m)) :=
  PE_imp (pe_callB (call_isX hz hf) hg hmi hv (pa_cons hn (pa_cons hce pa_nil h2) h1) (by decide) (by decide) h1 (by show (backTo pos (starEach [ce] X.env)).any (·.1) = false; rw [h2]; rfl)) fun σ H Q ⟨A, env, R, p⟩ => by
    unfold cIsE at p
    split at p
    · rename_i x hx
      split at p
      · rename_i b hb
        obtain ⟨v, ev, a', C, d', ns, rfl, hex, hcl, xf⟩ := R.cell i _ hx
        have rb : ∀ A H, RepD (G.at (some (a, cls, d))) A H (.bl b) (.bl b) := fun _ _ => by
          unfold RepD
          rfl
        have hex' : some (a, cls, d) = some (a', .ref C, d') := hex
        cases hex'
        refine ⟨_, ev, ?_⟩
        exact ⟨cv, C, b, rfl, rfl, by rw [hk]; exact hX _ _ _ _ hb hcl, xfs_d xf, .inl ⟨cu, hcv, by rw [hk]; exact hm _ _ _ _ hcl hb⟩, p A H R (Fr.refl _ _ _) _ (rb A H)⟩
      · exact p.elim
    · exact p.elim
end
end

/-- the goal that the head leaves, the classes' places found on the way -/
theorem walk_x {l : PySem.W.OpenLaw} {n k : Nat} {q : Program} {loose : List Str} {XP : (Str → Option Value) → Heap → Prop} {YP : World → Heap → Prop} {d : DefRec} {K : Params → PySem.W.Frag} {x : Str} {Φ : List D → Option RR}
    (hn : l.most = some n) (hn2 : n ≤ sizeLine) (hdf : d.params.defaults = []) (hr : Room k callerA) (hY : ∀ (w : World) (h : Heap), YP w h → (K w.params).In h)
    (F : ∀ (w : World) (mg : Str → Option Value) (fa : Addr) (h : Heap), (K w.params).In h → h.Ns mainGlobals mg → mg d.name = some (.ref fa) →
      ∃ fd : FuncData, (∀ (s : Shared) (u : Value), BindsTo s fd ⟨[u], []⟩ [(x, u)]) ∧ ∃ G : Tb, G.K = K w.params ∧ ∀ base : Heap, (K w.params).In base → base.Ns mainGlobals mg → FnG l.prog w (K w.params) mg base k fa fd [x] (spP G XRx 1 Φ))
    (hΦ : ∀ ns : List Int, ns.length ≤ n → (∀ z ∈ ns, Builtin.Int.intBits z ≤ 1048576) → Φ [.scr ns] = some (.ok (.dat (.bl true)))) : PySem.W.WalkO q loose XP YP l.row.toRowW d [] (fun f vs => PySem.call f vs) := by
  refine Att.attach_callB hn hdf fun w s₀ s₁ mg mb fa o pm cd doc a vs ns Gr Y ho hd hcd hmg hobj hints hlen hbits hg => ?_
  have KX := hY w _ Y
  obtain ⟨fd, hb, G, hG, hF⟩ := F w mg fa _ KX Gr.T.g hmg
  refine law_g KX Gr.T.g Gr.T.b Gr.T.builtins Gr.T.nolimit hg hobj hints (Nat.le_trans hlen hn2) hr hF hb fun H hS => ?_
  refine ⟨fun _ => False, [.scr ns], rfl, fun _ z => z.elim, .cons ?_ .nil, ?_⟩
  · unfold RepD
    refine ⟨a, rfl, ?_⟩
    rcases hS with ⟨o, e⟩ | e
    · exact .inl ⟨fun z => z, o, e⟩
    · rw [← hG] at e
      exact .inr e
  · rw [hΦ ns hlen hbits]
    intro v A' H' _ ro
    unfold RvOk at ro
    unfold RepD at ro
    exact ro
end Tk
/-! TkS1: tables of sets whose masks are 7, 31, 127, 511. -/
namespace TkS
open PySem L2

/-- a mask by whose round each slot is met from each -/
structure Msk (m : Nat) : Prop where
  odd : m % 2 = 1
  all : ∀ i j, i ≤ m → j ≤ m → ∃ k, k ≤ m ∧ lcgI m i k = j
/-- the round, written out -/
def rnd (m : Nat) : Nat → Nat → List Nat
  | 0, _ => []
  | n + 1, x => x :: rnd m n ((x * 5 + 1) % (m + 1))
theorem rnd_mem (m : Nat) : ∀ (n a y : Nat), y ∈ rnd m n (lcgN m a) → ∃ b, b < n ∧ lcgN m (a + b) = y
  | 0, _, _, h => by cases h
  | n + 1, a, y, h => by
    rcases List.mem_cons.mp h with e | e
    · exact ⟨0, by omega, e.symm⟩
    · obtain ⟨b, hb, eb⟩ := rnd_mem m n (a + 1) y e
      exact ⟨b + 1, by omega, by rw [← eb]; congr 1; omega⟩
theorem rnd511 : ((List.range 512).all fun j => (rnd 511 512 0).contains j) = true := by decide +kernel
theorem back511 : lcgN 511 512 = 0 := by decide +kernel
theorem per511 : ∀ k, lcgN 511 (512 + k) = lcgN 511 k
  | 0 => back511
  | k + 1 => by
    have e := per511 k
    show (lcgN 511 (512 + k) * 5 + 1) % 512 = (lcgN 511 k * 5 + 1) % 512
    rw [e]
theorem meet511 {j : Nat} (hj : j ≤ 511) : ∃ b, b < 512 ∧ lcgN 511 b = j := by
  have h1 := List.all_eq_true.mp rnd511 j (List.mem_range.mpr (by omega))
  have h2 : j ∈ rnd 511 512 (lcgN 511 0) := List.contains_iff_mem.mp h1
  obtain ⟨b, hb, e⟩ := rnd_mem 511 512 0 j h2
  rw [Nat.zero_add] at e
  exact ⟨b, hb, e⟩
theorem Msk.m511 : Msk 511 := by
  refine ⟨rfl, fun i j hi hj => ?_⟩
  obtain ⟨a, ha, rfl⟩ := meet511 hi
  obtain ⟨b, hb, rfl⟩ := meet511 hj
  by_cases c : a ≤ b
  · exact ⟨b - a, by omega, by rw [lcgN_add]; congr 1; omega⟩
  · refine ⟨b + 512 - a, by omega, ?_⟩
    rw [lcgN_add, show a + (b + 512 - a) = 512 + b by omega, per511]
theorem Msk.old {m : Nat} (h : MaskOk m) : Msk m := ⟨mask_odd h, fun i j hi hj => lcgI_all h hi hj⟩

variable {m : Nat}
theorem Msk.runs (M : Msk m) (h : Int) {j : Nat} (hj : j ≤ m) : ∃ n, n ≤ m + 12 ∧ runI m (SetTable.bits h) n = j := by
  obtain ⟨k, hk, e⟩ := M.all _ j (runI_le m (SetTable.bits h) 12) hj
  rw [← runI_tail (bits_lt h)] at e
  exact ⟨12 + k, by omega, e⟩
theorem Msk.meets (M : Msk m) (h : Int) {j : Nat} (hj : j ≤ m) : ∃ k, k < 10 * SetTable.turns m ∧ way m h k = j := by
  obtain ⟨n, hn, e⟩ := M.runs h hj
  obtain ⟨k, hk, e2⟩ := run_nth m (SetTable.bits h) n
  have ht : SetTable.turns m = m + 15 := rfl
  refine ⟨k, by omega, ?_⟩
  unfold way
  rw [e2, ← e]
  rfl
theorem wayLe (m : Nat) (h : Int) (k : Nat) : way m h k ≤ m := by
  have hb : SetTable.bits h % (m + 1) ≤ m := Nat.le_of_lt_succ (Nat.mod_lt _ (Nat.succ_pos _))
  obtain ⟨r1, r2, _⟩ := runEnd_bd hb
  have := nth_in (m := m) k (runAt m (SetTable.bits h % (m + 1)) (SetTable.bits h)) (by
    show SetTable.bits h % (m + 1) + (SetTable.runEnd m (SetTable.bits h % (m + 1)) - SetTable.bits h % (m + 1)) ≤ m
    omega)
  exact Nat.le_trans (Nat.le_add_right _ _) this

/-- each of the table's slots is found again from its hash -/
structure Tab (t : SetTable) (hs : List Int) : Prop where
  ris : Ris t.place.toList
  dm : t.dummies = #[]
  sz : t.place.size = hs.length
  ok : Msk t.mask
  bd : ∀ x, x ∈ t.place.toList → x ≤ t.mask
  on : ∀ (i : Nat) (g : Int) (j : Nat), hs[i]? = some g → t.place.toList[i]? = some j → ∃ n, way t.mask g n = j ∧ ∀ l, l < n → way t.mask g l ∈ t.place.toList
section
variable {t : SetTable} {hs : List Int}
theorem Tab.plen (T : Tab t hs) : t.place.toList.length = hs.length := by
  rw [Array.length_toList, T.sz]
theorem Tab.free (T : Tab t hs) (hl : hs.length ≤ t.mask) (g : Int) : ∃ N, N < 10 * SetTable.turns t.mask ∧ way t.mask g N ∉ t.place.toList ∧ ∀ n, n < N → way t.mask g n ∈ t.place.toList := by
  have hp := T.plen
  obtain ⟨j, j1, j2⟩ := st_missing t.place.toList (t.mask + 1) (by omega)
  obtain ⟨n, n1, n2⟩ := T.ok.meets g (show j ≤ t.mask by omega)
  obtain ⟨N, a, b, c⟩ := st_least (p := fun n => way t.mask g n ∉ t.place.toList) n (by rw [n2]; exact j2)
  exact ⟨N, by omega, b, fun l hl => Classical.not_not.mp (c l hl)⟩
theorem Tab.ahead (T : Tab t hs) {g : Int} {N i j : Nat} (hN : way t.mask g N ∉ t.place.toList) (hi : hs[i]? = some g) (hj : t.place.toList[i]? = some j) : ∃ n, n < N ∧ way t.mask g n = j := by
  obtain ⟨n, e, b⟩ := T.on i g j hi hj
  by_cases c : n < N
  · exact ⟨n, c, e⟩
  · exfalso
    by_cases d : n = N
    · subst d
      rw [e] at hN
      exact hN (List.mem_of_getElem? hj)
    · exact hN (b N (by omega))
theorem Tab.put (T : Tab t hs) {g : Int} {N : Nat} (hN : way t.mask g N ∉ t.place.toList) (hb : ∀ n, n < N → way t.mask g n ∈ t.place.toList) {q : Nat} (hq : q = SetTable.below t.place (way t.mask g N)) :
    (t.put (way t.mask g N)).2 = q ∧ q ≤ hs.length ∧ Tab (t.put (way t.mask g N)).1 (hs.take q ++ g :: hs.drop q) ∧ (t.put (way t.mask g N)).1.mask = t.mask ∧ (t.put (way t.mask g N)).1.led = t.led ∧
      (t.put (way t.mask g N)).1.plain = t.plain ∧ (t.put (way t.mask g N)).1.fill = hs.length + 1 := by
  have jm := wayLe t.mask g N
  have on := fun l hl => hb l hl
  generalize hj : way t.mask g N = j at *
  have c1 : q ≤ t.place.size := by rw [hq]; exact (below_cut T.ris j).1
  have ql : q ≤ hs.length := by rw [← T.sz]; exact c1
  have qp : q ≤ t.place.toList.length := by rw [T.plen]; exact ql
  have pp : (t.put j).1.place.toList = t.place.toList.take q ++ j :: t.place.toList.drop q := by rw [put_place, hq]
  have no : t.place[SetTable.below t.place j]? ≠ some j := fun e => hN (List.mem_of_getElem? (by rw [Array.getElem?_toList]; exact e))
  have ps : (t.put j).1.place.size = hs.length + 1 := by rw [← Array.length_toList, pp, len_ins _ qp, T.plen]
  have up : ∀ x, x ∈ t.place.toList → x ∈ (t.put j).1.place.toList := fun x hx => by
    rw [pp]
    exact mem_ins.mpr (.inr hx)
  refine ⟨hq.symm, ql, ⟨ris_insert T.ris no, put_dm T.dm j, by rw [ps, len_ins _ ql], T.ok, fun x hx => ?_, fun i g' j' e1 e2 => ?_⟩, rfl, rfl, rfl, ?_⟩
  · rw [pp] at hx
    rcases mem_ins.mp hx with rfl | hx
    · exact jm
    · exact T.bd x hx
  · rw [tins_get hs ql] at e1
    rw [pp, tins_get _ qp] at e2
    have old : ∀ i', hs[i']? = some g' → t.place.toList[i']? = some j' → ∃ n, way (t.put j).1.mask g' n = j' ∧ ∀ l, l < n → way (t.put j).1.mask g' l ∈ (t.put j).1.place.toList := fun i' a b => by
      obtain ⟨n, n1, n2⟩ := T.on i' g' j' a b
      exact ⟨n, n1, fun l hl => up _ (n2 l hl)⟩
    by_cases c : i < q
    · rw [if_pos c] at e1 e2
      exact old i e1 e2
    · rw [if_neg c] at e1 e2
      by_cases d : i = q
      · rw [if_pos d] at e1 e2
        cases e1
        cases e2
        exact ⟨N, hj, fun l hl => up _ (on l hl)⟩
      · rw [if_neg d] at e1 e2
        exact old _ e1 e2
  · show (t.put j).1.place.size + (t.put j).1.dummies.size = hs.length + 1
    rw [ps, put_dm T.dm j]
    rfl
end

/-! laying all anew -/
theorem Msk.open (M : Msk m) (ow : Array (Option Nat)) (g : Int) {j : Nat} (hj : j ≤ m) (hf : oAt ow j = none) :
    ∃ N, SetTable.layClean.free m ow (SetTable.turns m) (SetTable.bits g % (m + 1)) (SetTable.bits g) = some (way m g N) ∧ oAt ow (way m g N) = none ∧ ∀ n, n < N → oAt ow (way m g n) ≠ none := by
  obtain ⟨r, hr, e⟩ := M.runs g hj
  have hw : way m g (off m (SetTable.bits g % (m + 1)) (SetTable.bits g) r) = j := by
    unfold way
    rw [nth_off, itL_run, ← e]
    rfl
  obtain ⟨N, n1, n2, n3⟩ := st_least (p := fun n => oAt ow (way m g n) = none) _ (by rw [hw]; exact hf)
  have ht : SetTable.turns m = m + 15 := rfl
  refine ⟨N, free_spec m ow (SetTable.turns m) r _ _ N (by omega) n1 (fun n hn => ?_) (Option.isNone_iff_eq_none.mpr n2), n2, n3⟩
  cases z : oAt ow (way m g n) with
  | none => exact absurd z (n3 n hn)
  | some _ => rfl
theorem Msk.lay1 (M : Msk m) {done : List Int} {ow : Array (Option Nat)} (O : L2.Own m done ow) (hl : done.length ≤ m) (g : Int) :
    ∃ j, SetTable.layClean.free m ow (SetTable.turns m) (SetTable.bits g % (m + 1)) (SetTable.bits g) = some j ∧ L2.Own m (done ++ [g]) (ow.setIfInBounds j (some done.length)) := by
  obtain ⟨ps, l1, l2⟩ := O.ps
  obtain ⟨f, f1, f2⟩ := st_missing ps (m + 1) (by omega)
  have ff : oAt ow f = none := Classical.byContradiction fun z => f2 (l2 f (by omega) z)
  obtain ⟨N, e1, e2, e3⟩ := M.open ow g (show f ≤ m by omega) ff
  have jm := wayLe m g N
  generalize hj : way m g N = j at *
  have me : oAt (ow.setIfInBounds j (some done.length)) j = some done.length := oAt_set_self _ (by rw [O.sz]; omega)
  have ne : ∀ {i : Nat}, i ≠ j → oAt (ow.setIfInBounds j (some done.length)) i = oAt ow i := fun h => oAt_set_ne _ h
  have up : ∀ i, oAt ow i ≠ none → oAt (ow.setIfInBounds j (some done.length)) i ≠ none := fun i hi => by
    by_cases c : i = j
    · subst c
      rw [me]
      simp
    · rw [ne c]
      exact hi
  refine ⟨j, e1, by rw [Array.size_setIfInBounds, O.sz], fun i k hi e => ?_, fun k hk => ?_, j :: ps, by simp [l1], fun i hi e => ?_⟩
  · by_cases c : i = j
    · subst c
      rw [me] at e
      cases e
      exact ⟨g, N, by simp, hj, fun n hn => up _ (e3 n hn)⟩
    · rw [ne c] at e
      obtain ⟨h', K, a1, a2, a3⟩ := O.at_ i k hi e
      have hk : k < done.length := (List.getElem?_eq_some_iff.mp a1).1
      exact ⟨h', K, by rw [List.getElem?_append_left hk, a1], a2, fun n hn => up _ (a3 n hn)⟩
  · by_cases c : k = done.length
    · subst c
      exact ⟨j, jm, me⟩
    · obtain ⟨i, hi, e⟩ := O.all k (by simp at hk; omega)
      refine ⟨i, hi, ?_⟩
      rw [ne fun z => by rw [z, e2] at e; cases e]
      exact e
  · by_cases c : i = j
    · exact c ▸ List.mem_cons_self
    · rw [ne c] at e
      exact List.mem_cons_of_mem _ (l2 i hi e)
theorem Msk.layAll (M : Msk m) : ∀ (rest done : List Int) (ow : Array (Option Nat)), L2.Own m done ow → done.length + rest.length ≤ m → ∃ ow', rest.foldl (stepF m) (some (ow, done.length)) = some (ow', done.length + rest.length) ∧ L2.Own m (done ++ rest) ow'
  | [], done, ow, O, _ => ⟨ow, rfl, by rw [List.append_nil]; exact O⟩
  | g :: rest, done, ow, O, hl => by
    simp only [List.length_cons] at hl
    obtain ⟨j, e, O1⟩ := M.lay1 O (by omega) g
    obtain ⟨ow', f, O2⟩ := M.layAll rest (done ++ [g]) _ O1 (by simp; omega)
    rw [List.append_assoc] at O2
    refine ⟨ow', ?_, O2⟩
    rw [List.foldl_cons, stepF_some e]
    simp only [List.length_append, List.length_cons, List.length_nil] at f ⊢
    rw [show done.length + (rest.length + 1) = done.length + (0 + 1) + rest.length by omega]
    exact f
theorem Msk.lays (M : Msk m) {hs : Array Int} (hn : hs.size ≤ m) : ∃ ow, SetTable.layClean m hs = some ow ∧ L2.Own m hs.toList ow := by
  obtain ⟨ow, f, O⟩ := M.layAll hs.toList [] _ (L2.Own.init m) (by simp; omega)
  refine ⟨ow, ?_, O⟩
  rw [layClean_eq]
  simp only [List.length_nil] at f
  rw [f]
  rfl
/-- all laid anew into a table of mask m -/
theorem Msk.relays (M : Msk m) (t : SetTable) {hs : Array Int} {wanted : Nat} (hw : SetTable.sizeAbove wanted = m + 1) (hn : hs.size ≤ m) :
    ∃ t' od, t.relaid hs wanted = some (t', od) ∧ od.toList.Perm (List.range hs.size) ∧ Tab t' (od.toList.map fun i => hs.getD i 0) ∧ t'.mask = m ∧ t'.led = t.led ∧ t'.plain = t.plain := by
  obtain ⟨ow, e, O⟩ := M.lays hn
  have hr : t.relaid hs wanted = some (tabOf t m ow, ((liveOf m ow).map (·.2)).toArray) := by
    rw [relaid_eq, hw, Nat.add_sub_cancel, e]
    rfl
  have live : ∀ {j k : Nat}, (j, k) ∈ liveOf m ow ↔ j ≤ m ∧ oAt ow j = some k := mem_live O.sz
  obtain ⟨r1, r2⟩ := ris_live (fun j => ow.getD j none) (List.range (m + 1)) List.pairwise_lt_range
  have r1 : Ris ((liveOf m ow).map (·.1)) := r1
  have len1 : (liveOf m ow).length ≤ hs.size := by
    obtain ⟨ps, l1, l2⟩ := O.ps
    have nd : ((liveOf m ow).map (·.1)).Nodup := by
      unfold Ris at r1
      exact r1.imp fun h => Nat.ne_of_lt h
    have z := nat_nodup_len ((liveOf m ow).map (·.1)) ps nd fun x hx => by
      obtain ⟨⟨y, k⟩, hq, rfl⟩ := List.mem_map.mp hx
      obtain ⟨b1, b2⟩ := live.mp hq
      exact l2 _ b1 (by rw [b2]; simp)
    rw [List.length_map, l1, Array.length_toList] at z
    exact z
  have has : ∀ k, k < hs.size → k ∈ (liveOf m ow).map (·.2) := fun k hk => by
    obtain ⟨j, b1, b2⟩ := O.all k (by rw [Array.length_toList]; exact hk)
    exact List.mem_map.mpr ⟨(j, k), live.mpr ⟨b1, b2⟩, rfl⟩
  have len2 : hs.size ≤ (liveOf m ow).length := by
    have z := nat_nodup_len (List.range hs.size) ((liveOf m ow).map (·.2)) List.nodup_range fun k hk => has k (List.mem_range.mp hk)
    rw [List.length_range, List.length_map] at z
    exact z
  refine ⟨_, _, hr, perm_range hs.size _ (by simp; omega) has, ⟨r1, rfl, ?_, M, fun x hx => ?_, fun i g j h1 h2 => ?_⟩, rfl, rfl, rfl⟩
  · show ((liveOf m ow).map (·.1)).toArray.size = _
    simp
  · obtain ⟨⟨y, k⟩, hq, rfl⟩ := List.mem_map.mp (show x ∈ (liveOf m ow).map (·.1) from hx)
    exact (live.mp hq).1
  · have h1 : (((liveOf m ow).map (·.2)).map fun i => hs.getD i 0)[i]? = some g := h1
    have h2 : ((liveOf m ow).map (·.1))[i]? = some j := h2
    simp only [List.getElem?_map] at h1 h2
    cases hq : (liveOf m ow)[i]? with
    | none =>
      rw [hq] at h2
      cases h2
    | some y =>
      rw [hq] at h1 h2
      obtain ⟨y1, y2⟩ := y
      cases h2
      obtain ⟨b1, b2⟩ := live.mp (List.mem_of_getElem? hq)
      obtain ⟨g0, N, a1, a2, a3⟩ := O.at_ y1 y2 b1 b2
      have eg : g0 = g := by
        have z : hs.getD y2 0 = g := Option.some.inj h1
        rw [← z, Array.getD_eq_getD_getElem?, ← Array.getElem?_toList, a1]
        rfl
      subst eg
      refine ⟨N, a2, fun n hn => ?_⟩
      cases hz : oAt ow (way m g0 n) with
      | none => exact absurd hz (a3 n hn)
      | some k2 => exact List.mem_map.mpr ⟨(way m g0 n, k2), live.mpr ⟨wayLe m g0 n, hz⟩, rfl⟩
end TkS
/-! TkS2: a set of tuples of texts and ints. -/
namespace TkS
open PySem PySem.Spec PyProof.Rows L2

abbrev kH (P : Program) (w : World) (k : List Key) : Int := tupleKeyHash (mixKind P w) k
abbrev IsK (P : Program) (w : World) (h : Heap) (k : List Key) (a : Addr) : Prop := IsTupleKey (mixKind P w) h k a
section
variable {P : Program} {w : World} {A : Around} {E : Value → Shared → Prop} {s : Shared}
/-- an int or a text -/
def IoS (v : Value) : Prop := (∃ i t, v = .int i t) ∨ ∃ x t, v = .str x t
theorem ios_of {k : List Key} {vs : List Value} (h : ItemsAre (mixKind P w) k vs) : ∀ v, v ∈ vs → IoS v := by
  induction h with
  | nil =>
    intro v hv
    cases hv
  | @cons k0 u ks us hu _ ih =>
    intro v hv
    rcases List.mem_cons.mp hv with rfl | hv
    · rcases keyIs_shape hu with ⟨i, t, _, e⟩ | ⟨x, t, _, e⟩
      · exact .inl ⟨i, t, e⟩
      · exact .inr ⟨x, t, e⟩
    · exact ih v hv
theorem cls_ios {n : Nat} {v : Value} (h : IoS v) : ofAClassStatement n v = pure false := by
  rcases h with ⟨i, t, rfl⟩ | ⟨x, t, rfl⟩ <;> cases n <;> rfl
theorem clsT {k : List Key} {b : Addr} {Q : Bool → Shared → Prop} (hk : IsK P w s.heap k b) (q : Q false s) : wpAny (model P w) A (ofAClassStatement 8 (.ref b)) Q E s := by
  have ty := hk.typeIs
  obtain ⟨o, its, n, ho, _, hd, hi⟩ := hk
  unfold ofAClassStatement
  refine wpAny_bind (wpAny_typeOf ty ?_)
  dsimp only
  simp only [show (("tuple" : String) == "tuple") = true by decide, if_true, Bool.not_true, Bool.false_eq_true, if_false]
  try refine wpAny_bind (wpAny_pure ?_)
  try simp only [Bool.not_true, Bool.false_eq_true, if_false]
  refine wpAny_bind (wpAny_seqItems ho hd ?_)
  dsimp only
  refine wpAny_bind ?_
  show wpAny _ _ (forIn its _ _) _ _ s
  rw [← Array.forIn_toList]
  refine wpAny_forIn_list _ (fun left r z => r.1 = none ∧ z = s ∧ ∀ v, v ∈ left → IoS v) _ ?_ ?_ _ _ ⟨rfl, rfl, ios_of hi⟩
  · rintro v left r z ⟨_, rfl, all⟩
    rw [cls_ios (all v List.mem_cons_self)]
    refine wpAny_bind (wpAny_pure ?_)
    simp only [Bool.false_eq_true, if_false]
    exact wpAny_pure ⟨rfl, rfl, fun y hy => all y (List.mem_cons_of_mem _ hy)⟩
  · rintro ⟨r1, r2⟩ z ⟨e, rfl, _⟩
    dsimp only at e
    subst e
    exact wpAny_pure q
theorem by_ios {n : Nat} {v : Value} (h : IoS v) : ∃ b, hashByValue n v = pure b := by
  rcases h with ⟨i, t, rfl⟩ | ⟨x, t, rfl⟩
  · exact ⟨true, by cases n <;> rfl⟩
  · exact ⟨false, by cases n <;> rfl⟩
theorem byT {k : List Key} {b : Addr} {Q : Bool → Shared → Prop} (hk : IsK P w s.heap k b) (q : ∀ y, Q y s) : wpAny (model P w) A (hashByValue 8 (.ref b)) Q E s := by
  have ty := hk.typeIs
  obtain ⟨o, its, n, ho, _, hd, hi⟩ := hk
  unfold hashByValue
  refine wpAny_bind (wpAny_specialOf ty F.slot_tuple_hash.lookup ?_)
  dsimp only
  refine wpAny_bind (wpAny_seqItems ho hd ?_)
  refine wpAny_bind ?_
  show wpAny _ _ (forIn its _ _) _ _ s
  rw [← Array.forIn_toList]
  refine wpAny_forIn_list _ (fun left r z => z = s ∧ ∀ v, v ∈ left → IoS v) _ ?_ ?_ _ _ ⟨rfl, ios_of hi⟩
  · rintro v left r z ⟨rfl, all⟩
    obtain ⟨y, e⟩ := by_ios (n := 7) (all v List.mem_cons_self)
    rw [e]
    refine wpAny_bind (wpAny_pure ?_)
    cases y with
    | true =>
      simp only [Bool.not_true, Bool.false_eq_true, if_false]
      exact wpAny_pure ⟨rfl, fun y hy => all y (List.mem_cons_of_mem _ hy)⟩
    | false =>
      simp only [Bool.not_false, if_true]
      exact wpAny_pure (wpAny_pure (q _))
  · rintro ⟨r1, r2⟩ z ⟨rfl, _⟩
    cases r1 with
    | none => exact wpAny_pure (q _)
    | some y => exact wpAny_pure (q _)
/-- a search among such tuples shows nothing -/
theorem seenT {k : List Key} {b : Addr} {Q : Bool → Shared → Prop} (hk : IsK P w s.heap k b) {ys : List Value} (hy : ∀ y, y ∈ ys → ∃ k' c, y = Value.ref c ∧ IsK P w s.heap k' c) (q : Q false s) : wpAny (model P w) A (searchCouldBeSeen (.ref b) ys) Q E s := by
  unfold searchCouldBeSeen
  refine wpAny_bind ?_
  refine wpAny_forIn_list _ (fun left r z => r.1 = none ∧ z = s ∧ ∀ y, y ∈ left → ∃ k' c, y = Value.ref c ∧ IsK P w s.heap k' c) _ ?_ ?_ _ _ ⟨rfl, rfl, hy⟩
  · rintro v left r z ⟨_, rfl, all⟩
    obtain ⟨k', c, rfl, hc⟩ := all v List.mem_cons_self
    have on : ∀ y, y ∈ left → ∃ k' c, y = Value.ref c ∧ IsK P w z.heap k' c := fun y hy => all y (List.mem_cons_of_mem _ hy)
    dsimp only
    by_cases hv : (b == c || (carriedByValue (.ref b) && carriedByValue (.ref c))) = true
    · exact wp_if_pos hv (wpAny_pure ⟨rfl, rfl, on⟩)
    · refine wp_if_neg hv (wpAny_bind (wpAny_eqIsQuiet_tuple hk ?_))
      simp only [Bool.not_true, Bool.false_eq_true, if_false]
      refine wpAny_bind (wpAny_eqIsQuiet_tuple hc ?_)
      simp only [Bool.not_true, Bool.false_eq_true, if_false]
      refine wpAny_bind (clsT hk ?_)
      simp only [Bool.false_eq_true, if_false]
      refine wpAny_bind (clsT hc ?_)
      simp only [Bool.false_eq_true, if_false]
      exact wpAny_pure ⟨rfl, rfl, on⟩
  · rintro ⟨r1, r2⟩ z ⟨e, rfl, _⟩
    dsimp only at e
    subst e
    exact wpAny_pure q

/-! ### the set -/
abbrev KA := Addr × List Key
def rws (P : Program) (w : World) (L : List KA) : List (Int × Value) := L.map fun p => (kH P w p.2, Value.ref p.1)
structure SetS (P : Program) (w : World) (h : Heap) (a : Addr) (L : List KA) (es : Array (Int × Value)) (ep : Nat) (t : SetTable) : Prop where
  ob : ∃ o, h.get? a = some o ∧ o.ExactSet ∧ o.data = .set es ep t
  rows : es.toList = rws P w L
  tab : Tab t (L.map fun p => kH P w p.2)
  ms : t.mask = 7 ∨ t.mask = 31 ∨ t.mask = 127 ∨ t.mask = 511
  nd : (L.map (·.2)).Nodup
  tup : ∀ p, p ∈ L → IsK P w h p.2 p.1
  room : L.length * 5 < t.mask * 3
variable {a : Addr} {L : List KA} {es : Array (Int × Value)} {ep : Nat} {t : SetTable}
theorem rws_size (e : es.toList = rws P w L) : es.size = L.length := by
  have h := congrArg List.length e
  unfold rws at h
  rw [Array.length_toList, List.length_map] at h
  exact h
theorem fits_of (e : t.place.size = es.size) (d : t.dummies = #[]) (l : es.size ≤ t.mask) : t.fits es.size = true := by
  unfold SetTable.fits SetTable.fill
  rw [d, Bool.and_eq_true, beq_iff_eq, decide_eq_true_eq]
  exact ⟨e, by show t.place.size + 0 ≤ t.mask; omega⟩
theorem SetS.size {h : Heap} (R : SetS P w h a L es ep t) : es.size = L.length := rws_size R.rows
theorem SetS.pl {h : Heap} (R : SetS P w h a L es ep t) : t.place.size = L.length := by
  have := R.tab.sz
  rw [List.length_map] at this
  exact this
theorem SetS.fits {h : Heap} (R : SetS P w h a L es ep t) : t.fits es.size = true := by
  have h1 := R.pl
  have h2 := R.size
  have h3 := R.room
  exact fits_of (by omega) R.tab.dm (by omega)
theorem SetS.row {h : Heap} (R : SetS P w h a L es ep t) {i : Nat} {p : KA} (e : L[i]? = some p) : es[i]? = some (kH P w p.2, Value.ref p.1) := by
  rw [← Array.getElem?_toList, R.rows]
  unfold rws
  rw [List.getElem?_map, e]
  rfl
theorem SetS.stays {h : Heap} (R : SetS P w h a L es ep t) : ¬ t.gaveWay = true := by
  unfold SetTable.gaveWay
  rw [R.tab.ok.odd]
  decide
theorem dum {m n : Nat} : ∀ (n : Nat) (p : SetTable.Probe), p.dummy = none → (nth m p n).dummy = none
  | 0, _, h => h
  | n + 1, p, h => dum (n := n) n (adv m p) (by unfold adv; split <;> exact h)
/-- the n-th step of the way of a hash -/
abbrev stp (m : Nat) (g : Int) (n : Nat) : SetTable.Probe := nth m (runAt m (SetTable.bits g % (m + 1)) (SetTable.bits g)) n
theorem stp_add (m : Nat) (g : Int) (c n : Nat) : nth m (stp m g c) n = stp m g (c + n) := (nth_add m c _ n).symm
theorem srch (R : SetS P w s.heap a L es ep t) {x : Addr} {k : List Key} (hx : IsK P w s.heap k x) (hu : A.units < cLine) {g : Int} (hg : g = kH P w k) {N : Nat} (lN : N < 10 * SetTable.turns t.mask) (oN : way t.mask g N ∉ t.place.toList)
    (bN : ∀ c, c < N → way t.mask g c ∈ t.place.toList) {Q : SetFound → Shared → Prop} (yes : k ∈ L.map (·.2) → Q (.there none) s) (no : k ∉ L.map (·.2) → Q (.free (way t.mask g N) false) s) :
    ∀ (f c : Nat) (st : Option SetTable.Probe), st.getD (t.probeStart g) = stp t.mask g c → c ≤ N → N - c < f → (∀ (i : Nat) p, L[i]? = some p → p.2 = k → ∃ d, c ≤ d ∧ d < N ∧ t.place.toList[i]? = some (way t.mask g d)) →
      wpAny (model P w) A (setSearchFrom a (.ref x) g true f st) Q E s
  | 0, _, _, _, _, lf, _ => absurd lf (Nat.not_lt_zero _)
  | f + 1, c, st, hst, lc, lf, left => by
    obtain ⟨o, ho, _, hd⟩ := R.ob
    have hsh : ∀ (i : Nat) (p : KA), L[i]? = some p → (es[i]?.map (·.1)).getD 0 = kH P w p.2 := fun i p e => by
      rw [R.row e]
      rfl
    have spec := go_spec t R.tab.ris R.tab.dm (fun i => (es[i]?.map (·.1)).getD 0) g (10 * SetTable.turns t.mask) (N - c) (stp t.mask g c) (dum (n := c) c _ rfl) (by omega)
      (fun n hn => by rw [stp_add]; exact bN (c + n) (by omega)) (by rw [stp_add, show c + (N - c) = N by omega]; exact oN)
    rw [setSearchFrom_succ]
    refine wpAny_bind (wpAny_setState_of ho hd R.fits ?_)
    dsimp only
    refine wp_if_neg R.stays ?_
    try refine wpAny_bind (wpAny_pure ?_)
    rcases spec with ⟨n, i, ln, hi, eh, hno, hp⟩ | ⟨hno, hp⟩
    · rw [stp_add] at hi
      have hp' : t.probe (fun i => (es[i]?.map (·.1)).getD 0) g (st.getD (t.probeStart g)) = some (.candidate (way t.mask g (c + n)) i (stp t.mask g (c + (n + 1)))) := by
        rw [hst]
        rw [stp_add, stp_add] at hp
        exact hp
      rw [hp']
      dsimp only
      have li : i < L.length := by
        have l1 := (List.getElem?_eq_some_iff.mp hi).1
        rw [Array.length_toList, R.pl] at l1
        exact l1
      obtain ⟨y, ey⟩ : ∃ y, L[i]? = some y := ⟨_, List.getElem?_eq_getElem li⟩
      have my : y ∈ L := List.mem_of_getElem? ey
      have live : t.slot (way t.mask g (c + n)) = .live i := slot_live R.tab.ris hi
      have body : wpAny (model P w) A (searchRest a (.ref x) g true f es t (way t.mask g (c + n)) i (stp t.mask g (c + (n + 1)))) Q E s := by
        unfold searchRest
        rw [R.row ey]
        dsimp only
        refine wpAny_bind (wpAny_holding (wpAny_eqBool_tuple hu (R.tup y my) hx ?_))
        refine wpAny_bind (wpAny_setState_of ho hd R.fits ?_)
        dsimp only
        by_cases ek : y.2 = k
        · exact wp_if_pos (by simp [ek]) (wpAny_pure (yes (List.mem_map.mpr ⟨y, my, ek⟩)))
        · refine wp_if_neg (by simp [ek]) ?_
          try refine wpAny_bind (wpAny_pure ?_)
          rw [sameMem]
          dsimp only
          simp only [if_true, live, R.row ey]
          refine wpAny_bind (wpAny_isSame_ref_self (wpAny_bind (wpAny_pure ?_)))
          simp only [if_true]
          refine wp_if_neg (by simp [ek]) (srch R hx hu hg lN oN bN yes no f (c + (n + 1)) _ rfl (by omega) (by omega) fun j q eq kq => ?_)
          obtain ⟨d, d1, d2, d3⟩ := left j q eq kq
          refine ⟨d, ?_, d2, d3⟩
          by_cases z : d < c + n
          · exfalso
            exact hno (d - c) j (by omega) (by rw [stp_add, show c + (d - c) = d by omega]; exact d3) (by show (es[j]?.map (·.1)).getD 0 = g; rw [hsh j q eq, kq, hg])
          · by_cases z2 : d = c + n
            · exfalso
              subst z2
              have s2 := slot_live R.tab.ris d3
              rw [live] at s2
              cases s2
              rw [ey] at eq
              cases eq
              exact ek kq
            · omega
      by_cases led : t.led = true
      · refine wp_if_neg (by simp [led]) ?_
        try refine wpAny_bind (wpAny_pure ?_)
        exact body
      · refine wp_if_pos (by simp [led]) (wpAny_bind (seenT hx (fun v hv => ?_) ?_))
        · obtain ⟨r, hr, rfl⟩ := List.mem_map.mp hv
          have hr2 : r ∈ es.toList := by
            have : r ∈ es ∧ r.1 = g := by simpa using hr
            simpa using this.1
          rw [R.rows] at hr2
          obtain ⟨y2, m2, rfl⟩ := List.mem_map.mp hr2
          exact ⟨y2.2, y2.1, rfl, R.tup y2 m2⟩
        · refine wp_if_neg (by decide) ?_
          try refine wpAny_bind (wpAny_pure ?_)
          exact body
    · have hp' : t.probe (fun i => (es[i]?.map (·.1)).getD 0) g (st.getD (t.probeStart g)) = some (.empty (way t.mask g N) none) := by
        rw [hst]
        rw [stp_add, show c + (N - c) = N by omega] at hp
        exact hp
      rw [hp']
      dsimp only
      refine wpAny_pure (no fun hm => ?_)
      obtain ⟨y, my, ky⟩ := List.mem_map.mp hm
      obtain ⟨j, lj, ej⟩ := List.getElem_of_mem my
      have ej : L[j]? = some y := by rw [List.getElem?_eq_getElem lj, ej]
      obtain ⟨d, d1, d2, d3⟩ := left j y ej ky
      exact hno (d - c) j (by omega) (by rw [stp_add, show c + (d - c) = d by omega]; exact d3) (by show (es[j]?.map (·.1)).getD 0 = g; rw [hsh j y ej, ky, hg])
theorem srch0 (R : SetS P w s.heap a L es ep t) {x : Addr} {k : List Key} (hx : IsK P w s.heap k x) (hu : A.units < cLine) {Q : SetFound → Shared → Prop} (yes : k ∈ L.map (·.2) → Q (.there none) s)
    (no : ∀ N, k ∉ L.map (·.2) → way t.mask (kH P w k) N ∉ t.place.toList → (∀ c, c < N → way t.mask (kH P w k) c ∈ t.place.toList) → Q (.free (way t.mask (kH P w k) N) false) s) : wpAny (model P w) A (setSearch a (.ref x) (kH P w k) true) Q E s := by
  have room := R.room
  have pl := R.pl
  obtain ⟨N, lN, oN, bN⟩ := R.tab.free (by rw [List.length_map]; omega) (kH P w k)
  have ht : SetTable.turns t.mask = t.mask + 15 := rfl
  have big : N < 100000 := by
    have := R.ms
    omega
  unfold setSearch
  refine srch R hx hu rfl lN oN bN yes (fun h => no N h oN bN) 100000 0 none rfl (Nat.zero_le _) (by omega) fun i p e ek => ?_
  have li := (List.getElem?_eq_some_iff.mp e).1
  have hj : t.place.toList[i]? = some _ := List.getElem?_eq_getElem (by rw [Array.length_toList, pl]; exact li)
  obtain ⟨c, lc, ec⟩ := R.tab.ahead oN (i := i) (by rw [List.getElem?_map, e, ← ek]; rfl) hj
  exact ⟨c, Nat.zero_le _, lc, by rw [hj, ec]⟩
end
end TkS
/-! TkS3: adding to a set of tuples. -/
namespace TkS
open PySem PySem.Spec PyProof.Rows L2
section
variable {P : Program} {w : World} {A : Around} {E : Value → Shared → Prop} {s : Shared} {a : Addr} {L : List KA} {es : Array (Int × Value)} {ep : Nat} {t : SetTable}
theorem isK_but {h h' : Heap} {k : List Key} {b : Addr} {o : Obj} (hb : IsK P w h k b) (ho : h.get? a = some o) (hd : o.data = .set es ep t) (sb : Heap.SameBut a h h') : IsK P w h' k b := by
  obtain ⟨o2, its, n, e, c, d, i⟩ := hb
  refine ⟨o2, its, n, ?_, c, d, i⟩
  have ne : b ≠ a := fun z => by
    subst z
    rw [ho] at e
    cases e
    rw [hd] at d
    cases d
  rw [sb.2 b ne]
  exact e
/-- the rows in another order -/
theorem reorder (od : Array Nat) (hr : es.toList = rws P w L) (hp : od.toList.Perm (List.range L.length)) :
    ∃ L2 : List KA, (od.filterMap (es[·]?)).toList = rws P w L2 ∧ L2.Perm L ∧ (L2.map fun p => kH P w p.2) = od.toList.map fun i => (es.map (·.1)).getD i 0 := by
  have row : ∀ i (h : i < L.length), es[i]? = some (kH P w L[i].2, Value.ref L[i].1) := fun i h => by
    rw [← Array.getElem?_toList, hr]
    unfold rws
    rw [List.getElem?_map, List.getElem?_eq_getElem h]
    rfl
  have go : ∀ l : List Nat, (∀ i, i ∈ l → i < L.length) → l.filterMap (fun i => es[i]?) = rws P w (l.filterMap fun i => L[i]?) ∧ ((l.filterMap fun i => L[i]?).map fun p => kH P w p.2) = l.map fun i => (es.map (·.1)).getD i 0 := fun l => by
    induction l with
    | nil => exact fun _ => ⟨rfl, rfl⟩
    | cons i l ih =>
      intro hl
      have hi := hl i List.mem_cons_self
      obtain ⟨a1, a2⟩ := ih fun j hj => hl j (List.mem_cons_of_mem _ hj)
      have e2 : L[i]? = some L[i] := List.getElem?_eq_getElem hi
      have e3 : (es.map (·.1)).getD i 0 = kH P w L[i].2 := by
        rw [Array.getD_eq_getD_getElem?, Array.getElem?_map, row i hi]
        rfl
      rw [List.filterMap_cons_some (row i hi), List.filterMap_cons_some e2, List.map_cons, List.map_cons, a1, a2, e3]
      exact ⟨rfl, rfl⟩
  obtain ⟨a1, a2⟩ := go od.toList fun i hi => List.mem_range.mp (hp.mem_iff.mp hi)
  have whole : ∀ M : List KA, (List.range M.length).filterMap (fun i => M[i]?) = M := fun M => by
    apply List.ext_getElem?
    intro j
    have : (List.range M.length).filterMap (fun i => M[i]?) = (List.range M.length).filterMap (fun i => M[i]?) := rfl
    clear this
    have key : ∀ n, n ≤ M.length → (List.range n).filterMap (fun i => M[i]?) = M.take n := fun n => by
      induction n with
      | zero => exact fun _ => rfl
      | succ n ih =>
        intro hn
        have e : M[n]? = some M[n] := List.getElem?_eq_getElem hn
        rw [List.range_succ, List.filterMap_append, ih (by omega), List.take_succ, e, List.filterMap_cons_some e]
        rfl
    rw [key _ (Nat.le_refl _), List.take_length]
  refine ⟨_, by rw [Array.toList_filterMap]; exact a1, ?_, a2⟩
  have := hp.filterMap fun i => L[i]?
  rw [whole] at this
  exact this
theorem relay {o : Obj} (ho : s.heap.get? a = some o) (hex : o.ExactSet) (hd : o.data = .set es ep t) (hr : es.toList = rws P w L) (hz : t.place.size = es.size) (hm : t.dummies = #[]) (hl : es.size ≤ t.mask) (nd : (L.map (·.2)).Nodup)
    (tup : ∀ p, p ∈ L → IsK P w s.heap p.2 p.1) {wanted m : Nat} (M : Msk m) (ms : m = 7 ∨ m = 31 ∨ m = 127 ∨ m = 511) (hw : SetTable.sizeAbove wanted = m + 1) (hn : L.length * 5 < m * 3) {Q : Unit → Shared → Prop}
    (q : ∀ h' L' es' ep' t', Heap.SameBut a s.heap h' → SetS P w h' a L' es' ep' t' → L'.Perm L → Q () { s with heap := h' }) : wpAny (model P w) A (setRelay a wanted) Q E s := by
  have sz := rws_size hr
  obtain ⟨t', od, e, hp, T, em, _, _⟩ := M.relays t (hs := es.map (·.1)) hw (by rw [Array.size_map]; omega)
  rw [Array.size_map, sz] at hp
  obtain ⟨L2, r1, r2, r3⟩ := reorder od hr hp
  rw [← r3] at T
  have z2 : (od.filterMap (es[·]?)).size = es.size := by rw [rws_size r1, r2.length_eq, sz]
  rw [setRelay_eq]
  refine wpAny_bind (wpAny_setState_of ho hd (fits_of hz hm hl) ?_)
  dsimp only
  refine wp_if_neg (by rw [hw, sizeLine_eq]; omega) ?_
  try refine wpAny_bind (wpAny_pure ?_)
  rw [e]
  dsimp only
  refine wpAny_bind (wp_if_neg (by rw [z2]; simp) ?_)
  try refine wpAny_bind (wpAny_pure ?_)
  refine wpAny_pure ?_
  dsimp only
  refine wpAny_storeSet_of ho hd ?_ (by rw [z2, sz, sizeLine_eq]; omega)
  have sb : Heap.SameBut a s.heap (s.heap.update a (Obj.putSet (od.filterMap (es[·]?)) t')) := Heap.SameBut.update ..
  exact q _ L2 _ (ep + 1) t' sb ⟨⟨_, store_at ho hd, ⟨hex.1, hex.2.1, hex.2.2⟩, rfl⟩, r1, T, by rw [em]; exact ms, (r2.map (·.2)).nodup_iff.mpr nd, fun p h => isK_but (tup p (r2.mem_iff.mp h)) ho hd sb, by rw [r2.length_eq, em]; exact hn⟩ r2
theorem put_rows {p : Nat} {x : Addr} {k : List Key} : rws P w (L.take p ++ (x, k) :: L.drop p) = (rws P w L).take p ++ (kH P w k, Value.ref x) :: (rws P w L).drop p := by
  unfold rws
  rw [List.map_append, List.map_cons, List.map_take, List.map_drop]
theorem size308 : SetTable.sizeAbove (SetTable.grown 77) = 512 := by decide +kernel
/-- adding: nothing new, or one more -/
theorem adds (R : SetS P w s.heap a L es ep t) {x : Addr} {k : List Key} (hx : IsK P w s.heap k x) (hu : A.units < cLine) (few : L.length < 300) {Q : Bool → Shared → Prop}
    (q : ∀ b h' L' es' ep' t', Heap.SameBut a s.heap h' → SetS P w h' a L' es' ep' t' → (k ∈ L.map (·.2) → L' = L) → (k ∉ L.map (·.2) → L'.Perm ((x, k) :: L)) → Q b { s with heap := h' }) : wpAny (model P w) A (setAddHashed a (.ref x) (kH P w k)) Q E s := by
  obtain ⟨o, ho, hex, hd⟩ := R.ob
  have sz := R.size
  have room := R.room
  unfold setAddHashed
  refine wpAny_holding ?_
  rw [show (100000 : Nat) = 99999 + 1 from rfl, setAddHashedIn_succ]
  refine wpAny_bind (wpAny_setState_of ho hd R.fits ?_)
  dsimp only
  refine wp_if_neg (by simp [byScan, Value.scannable]) ?_
  try refine wpAny_bind (wpAny_pure ?_)
  refine wpAny_bind (srch0 R hx hu (fun hm => ?_) fun N hm oN bN => ?_)
  · dsimp only
    exact wpAny_pure (q false s.heap L es ep t (Heap.SameBut.refl a s.heap) R (fun _ => rfl) fun z => absurd hm z)
  · dsimp only
    refine wpAny_bind (wpAny_setState_of ho hd R.fits ?_)
    dsimp only
    obtain ⟨b, hb⟩ : ∃ b, b = SetTable.below t.place (way t.mask (kH P w k) N) := ⟨_, rfl⟩
    obtain ⟨p1, p2, p3, p4, p5, p6, p7⟩ := R.tab.put oN bN hb
    rw [List.length_map] at p2 p7
    generalize t.put (way t.mask (kH P w k) N) = pt at p1 p3 p4 p5 p6 p7 ⊢
    obtain ⟨t1, pb⟩ := pt
    dsimp only at p1 p3 p4 p5 p6 p7 ⊢
    subst p1
    have rows1 : (SetTable.insertAt es pb (kH P w k, Value.ref x)).toList = rws P w (L.take pb ++ (x, k) :: L.drop pb) := by
      rw [SetTable.toList_insertAt, put_rows, R.rows]
    have pm := put_perm L pb (x, k)
    have len1 : (L.take pb ++ (x, k) :: L.drop pb).length = L.length + 1 := pm.length_eq
    have hs1 : ((L.take pb ++ (x, k) :: L.drop pb).map fun p => kH P w p.2) = (L.map fun p => kH P w p.2).take pb ++ kH P w k :: (L.map fun p => kH P w p.2).drop pb := by
      rw [List.map_append, List.map_cons, List.map_take, List.map_drop]
    have nd1 : ((L.take pb ++ (x, k) :: L.drop pb).map (·.2)).Nodup := by
      rw [(pm.map (·.2)).nodup_iff, List.map_cons]
      exact List.nodup_cons.mpr ⟨hm, R.nd⟩
    have sz1 := rws_size rows1
    rw [← hs1] at p3
    generalize SetTable.insertAt es pb (kH P w k, Value.ref x) = es1 at rows1 sz1 ⊢
    generalize L.take pb ++ (x, k) :: L.drop pb = L1 at *
    -- whatever is said of the hash, the table is the same
    have fin : ∀ t2 : SetTable, t2.mask = t1.mask → t2.fill = t1.fill → Tab t2 (L1.map fun p => kH P w p.2) → wpAny (model P w) A (do
        storeSet a es1 t2
        if (!false && t2.tooFull) = true then do
          setRelay a (SetTable.grown (es.size + 1))
          pure true
        else pure true) Q E s := fun t2 e1 e2 T2 => by
      refine wpAny_bind (wpAny_storeSet_of ho hd ?_ (by rw [sz1, len1, sizeLine_eq]; omega))
      have sb : Heap.SameBut a s.heap (s.heap.update a (Obj.putSet es1 t2)) := Heap.SameBut.update ..
      have ho1 := store_at (es' := es1) (t' := t2) ho hd
      generalize s.heap.update a (Obj.putSet es1 t2) = h1 at sb ho1 ⊢
      have tup1 : ∀ p, p ∈ L1 → IsK P w h1 p.2 p.1 := fun p hp => by
        rcases List.mem_cons.mp (pm.mem_iff.mp hp) with rfl | hp
        · exact isK_but hx ho hd sb
        · exact isK_but (R.tup p hp) ho hd sb
      have ms := R.ms
      have pz : t2.place.size = L1.length := by
        have := T2.sz
        rw [List.length_map] at this
        exact this
      rw [p4] at e1
      rw [p7] at e2
      by_cases full : t2.tooFull = true
      · have big : (L.length + 1) * 5 ≥ t2.mask * 3 := by
          unfold SetTable.tooFull at full
          rw [decide_eq_true_eq, e2] at full
          exact full
        have go : ∀ m, Msk m → (m = 7 ∨ m = 31 ∨ m = 127 ∨ m = 511) → SetTable.sizeAbove (SetTable.grown (es.size + 1)) = m + 1 → L1.length * 5 < m * 3 →
            wpAny (model P w) A (setRelay a (SetTable.grown (es.size + 1))) (fun _ z => wpAny (model P w) A (pure true) Q E z) E { s with heap := h1 } := fun m M mm hw hn =>
          relay (s := { s with heap := h1 }) ho1 ⟨hex.1, hex.2.1, hex.2.2⟩ rfl rows1 (by omega) T2.dm (by omega) nd1 tup1 M mm hw hn fun h2 L2 es2 ep2 t3 sb2 R2 pm2 => wpAny_pure (q true h2 L2 es2 ep2 t3 (sb.trans sb2) R2 (fun z => absurd z hm) fun _ => pm2.trans pm)
        refine wp_if_pos (by simp [full]) (wpAny_bind ?_)
        rw [sz] at go ⊢
        rcases ms with e | e | e | e
        · have l4 : L.length = 4 := by omega
          exact go 31 (Msk.old (.inr (.inl rfl))) (.inr (.inl rfl)) (by rw [l4]; exact size_20) (by omega)
        · have l18 : L.length = 18 := by omega
          exact go 127 (Msk.old (.inr (.inr rfl))) (.inr (.inr (.inl rfl))) (by rw [l18]; exact size_76) (by omega)
        · have l76 : L.length = 76 := by omega
          exact go 511 Msk.m511 (.inr (.inr (.inr rfl))) (by rw [l76]; exact size308) (by omega)
        · omega
      · refine wp_if_neg (by simp [full]) (wpAny_pure (q true h1 L1 es1 (ep + 1) t2 sb ⟨⟨_, ho1, ⟨hex.1, hex.2.1, hex.2.2⟩, rfl⟩, rows1, T2, by rw [e1]; exact ms, nd1, tup1, ?_⟩ (fun z => absurd z hm) fun _ => pm))
        unfold SetTable.tooFull at full
        rw [decide_eq_true_eq, e2] at full
        omega
    by_cases hp : t1.plain = true
    · refine wp_if_pos hp (wpAny_bind (byT hx fun y => ?_))
      cases y with
      | true => exact fin t1 rfl rfl p3
      | false => exact fin { t1 with plain := false } rfl rfl ⟨p3.ris, p3.dm, p3.sz, p3.ok, p3.bd, p3.on⟩
    · refine wp_if_neg hp (wpAny_bind (wpAny_pure ?_))
      exact fin t1 rfl rfl p3
end
end TkS
/-! TkS4: len(set(xs)) of a tuple of tuples of texts and ints. -/
namespace TkS
open PySem PySem.Spec PyProof.Rows L2
/-- what the set has of the first i -/
structure Has (ks : List KA) (i : Nat) (L : List KA) : Prop where
  sub : ∀ p, p ∈ L → p ∈ ks.take i
  all : ∀ p, p ∈ ks.take i → p.2 ∈ L.map (·.2)
  len : L.length ≤ i
theorem take1 {α : Type} {l : List α} {i : Nat} {x : α} (h : l[i]? = some x) : l.take (i + 1) = l.take i ++ [x] := by
  rw [List.take_succ, h]
  rfl
theorem Has.again {ks L : List KA} {i : Nat} {x : KA} (g : Has ks i L) (h : ks[i]? = some x) (m : x.2 ∈ L.map (·.2)) : Has ks (i + 1) L := by
  refine ⟨fun p hp => ?_, fun p hp => ?_, by have := g.len; omega⟩ <;> rw [take1 h] at *
  · exact List.mem_append_left _ (g.sub p hp)
  · rcases List.mem_append.mp hp with hp | hp
    · exact g.all p hp
    · cases List.mem_singleton.mp hp
      exact m
theorem Has.new {ks L L' : List KA} {i : Nat} {x : KA} (g : Has ks i L) (h : ks[i]? = some x) (pm : L'.Perm (x :: L)) : Has ks (i + 1) L' := by
  refine ⟨fun p hp => ?_, fun p hp => ?_, by have := g.len; rw [pm.length_eq, List.length_cons]; omega⟩
  · rw [take1 h]
    rcases List.mem_cons.mp (pm.mem_iff.mp hp) with rfl | hp
    · exact List.mem_append_right _ (List.mem_singleton.mpr rfl)
    · exact List.mem_append_left _ (g.sub p hp)
  · rw [take1 h] at hp
    rw [(pm.map (·.2)).mem_iff, List.map_cons]
    rcases List.mem_append.mp hp with hp | hp
    · exact List.mem_cons_of_mem _ (g.all p hp)
    · cases List.mem_singleton.mp hp
      exact List.mem_cons_self
section
variable {P : Program} {w : World} {A : Around} {E : Value → Shared → Prop} {s : Shared}
theorem isK_on {h h' : Heap} {k : List Key} {b : Addr} (x : IsK P w h k b) (kp : ∀ c o, h.get? c = some o → h'.get? c = some o) : IsK P w h' k b := by
  obtain ⟨o, its, n, e, r⟩ := x
  exact ⟨o, its, n, kp b o e, r⟩
theorem SetS.on {h h' : Heap} {a : Addr} {L : List KA} {es : Array (Int × Value)} {ep : Nat} {t : SetTable} (R : SetS P w h a L es ep t) (kp : ∀ o, h.get? a = some o → h'.get? a = some o) (tp : ∀ p, p ∈ L → IsK P w h' p.2 p.1) : SetS P w h' a L es ep t := by
  obtain ⟨o, e, r⟩ := R.ob
  exact ⟨⟨o, kp o e, r⟩, R.rows, R.tab, R.ms, R.nd, tp, R.room⟩
abbrev set0 (w : World) : Obj := { cls := .type "set", dict := none, data := .set #[] 0 (.fresh 0 0 (!w.params.followText "set-order")) }
theorem SetS.fresh {h : Heap} {a : Addr} (e : h.get? a = some (set0 w)) : SetS P w h a [] #[] 0 (.fresh 0 0 (!w.params.followText "set-order")) where
  ob := ⟨_, e, ⟨rfl, rfl, rfl⟩, rfl⟩
  rows := rfl
  tab := ⟨List.Pairwise.nil, rfl, rfl, Msk.old (.inl rfl), (fun x hx => by cases hx), (fun i g j hi => by simp at hi)⟩
  ms := .inl rfl
  nd := List.nodup_nil
  tup := fun p hp => by cases hp
  room := by show 0 * 5 < 7 * 3; decide
/-- the loop of update -/
theorem upds {I : Addr} {fp wr : List Addr} {G : Array GenState → Array GenState → Prop} {n : Nat} {Pv : Nat → Value → Prop} {St : Nat → Shared → Prop} {R : Result → Shared → Prop} (W : WalksS P w A.in1 I fp wr G n Pv St) (S : Addr) (nS : S ∉ fp)
    (ks : List KA) (hn : n = ks.length) (few : ks.length < 300) (val : ∀ i v, Pv i v → ∃ p, ks[i]? = some p ∧ v = .ref p.1) (h0 : Heap) (hk : ∀ p, p ∈ ks → IsK P w h0 p.2 p.1) (S0 : h0.get? S = none) (w0 : ∀ b, b ∈ wr → h0.get? b = none) (hu : A.in1.units < cLine) :
    ∀ (m i : Nat) (s : Shared), n - i = m → i ≤ n → St i s → (∀ b o, h0.get? b = some o → s.heap.get? b = some o) → (∃ L es ep t, SetS P w s.heap S L es ep t ∧ Has ks i L) →
      (∀ s' L es ep t, Moved (S :: wr) G s s' → SetS P w s'.heap S L es ep t → Has ks n L → (∀ b o, h0.get? b = some o → s'.heap.get? b = some o) → R (.ok (.ret .none)) s') → codeAny (model P w) A (.builtin "set.update.loop" ⟨[.ref S, .ref I], []⟩) R s := by
  have nw : S ∉ wr := fun z => nS (W.sub _ z)
  have sub : ∀ b, b ∈ wr → b ∈ S :: wr := fun b hb => List.mem_cons_of_mem _ hb
  have mv : ∀ {s s' : Shared}, Moved wr G s s' → (∀ b o, h0.get? b = some o → s.heap.get? b = some o) → ∀ b o, h0.get? b = some o → s'.heap.get? b = some o := fun M kp b o e => M.heap b o (fun hb => by rw [w0 b hb] at e; cases e) (kp b o e)
  have inks : ∀ {i : Nat} {L : List KA}, Has ks i L → ∀ p, p ∈ L → p ∈ ks := fun g p hp => List.mem_of_mem_take (g.sub p hp)
  intro m
  induction m with
  | zero =>
    rintro i s em li st kp ⟨L, es, ep, t, RS, g⟩ q
    cases show i = n by omega
    refine codeAny_builtin F.entry_set_update_loop ?_
    rw [Around.under_plainId F.plain_set_update_loop _]
    show wpAny _ A.in1 (pyNext (.ref I) >>= _) _ _ s
    refine wpAny_bind (W.done s _ _ st fun s' M => ?_)
    have kp' := mv M kp
    exact wpAny_pure (q s' L es ep t (M.mono sub) (RS.on (fun o e => M.heap S o nw e) fun p hp => isK_on (hk p (inks g p hp)) kp') g kp')
  | succ m ih =>
    rintro i s em li st kp ⟨L, es, ep, t, RS, g⟩ q
    refine codeAny_builtin F.entry_set_update_loop ?_
    rw [Around.under_plainId F.plain_set_update_loop _]
    show wpAny _ A.in1 (pyNext (.ref I) >>= _) _ _ s
    refine wpAny_bind (W.item i s _ _ (by omega) st fun v s' pv st' M => ?_)
    obtain ⟨p, ep0, rfl⟩ := val i v pv
    have kp' := mv M kp
    have RS' := RS.on (fun o e => M.heap S o nw e) fun y hy => isK_on (hk y (inks g y hy)) kp'
    have px : IsK P w s'.heap p.2 p.1 := isK_on (hk p (List.mem_of_getElem? ep0)) kp'
    show wpAny _ A.in1 (holding [Value.ref p.1] (setAdd S (.ref p.1)) >>= _) _ _ s'
    refine wpAny_bind (wpAny_holding ?_)
    unfold setAdd
    refine wpAny_holding (wpAny_bind (wpAny_pyHash_tuple hu px ?_))
    refine adds (s := { s' with toks := s'.toks + (p.2.length + 1) }) RS' px hu (by have := g.len; omega) fun b h' L' es' ep' t' sb RS2 c1 c2 => ?_
    have g' : Has ks (i + 1) L' := by
      by_cases c : p.2 ∈ L.map (·.2)
      · rw [c1 c]
        exact g.again ep0 c
      · exact g.new ep0 (c2 c)
    have kp2 : ∀ b o, h0.get? b = some o → h'.get? b = some o := fun b o e => by
      rw [sb.2 b fun z => by rw [z, S0] at e; cases e]
      exact kp' b o e
    refine wpAny_pure ⟨plainId_quiet F.plain_set_update_loop _, ih (i + 1) _ (by omega) (by omega) (W.frame _ s' _ _ st' (Nat.le_add_right _ _) fun b hb o e => ?_) kp2 ⟨L', es', ep', t', RS2, g'⟩ fun s'' L2 es2 ep2 t2 M2 RS3 g2 kp3 => ?_⟩
    · rw [sb.2 b fun z => nS (z ▸ hb)]
      exact e
    · refine q s'' L2 es2 ep2 t2 (Moved.trans W.gtrans ((M.mono sub).then_heap (Nat.le_add_right _ _) fun b o nb e => ?_) M2) RS3 g2 kp3
      rw [sb.2 b fun z => nb (z ▸ List.mem_cons_self)]
      exact e

/-- set(xs) of a tuple -/
theorem setOf {l : Addr} {its : Array Value} (ks : List KA) {Q : Value → Shared → Prop} (hh : A.handled = none) (hl : s.heap.IsTuple l its) (hit : its.toList = ks.map fun p => Value.ref p.1) (hk : ∀ p, p ∈ ks → IsK P w s.heap p.2 p.1) (few : ks.length < 300)
    (hu : A.units + 3 < cLine) (q : ∀ (h' : Heap) (tk : Nat) L es ep t, SetS P w h' s.heap.objs.size L es ep t → Has ks ks.length L → (∀ b o, s.heap.get? b = some o → h'.get? b = some o) → Q (.ref s.heap.objs.size) { s with heap := h', toks := tk }) :
    wpAny (model P w) A (call (.type "set") [.ref l]) Q E s := by
  have iz : its.size = ks.length := by
    rw [← Array.length_toList, hit, List.length_map]
  have ⟨_, _, f1⟩ := F.called_set.mro
  have f2 := F.called_set.made
  have f3 := F.called_set.sub
  have f4 := F.called_set.notType
  have f5 := F.called_set.canCreate
  have f6 := F.typeCall_set_1 (.ref l)
  refine wpAny_call (codeAny_of_tree ?_)
  show wpAny _ _ (callAny (.type "set") _) _ _ _
  refine wpAny_pure ⟨Code.quiet_builtin _ (by decide +kernel), codeAny_builtin F.entry_type_call ?_⟩
  rw [Around.under_plain (weight_type_call_type "set" [.ref l] []) rfl]
  repeat any_goals first | assumption | wp_step
  refine codeAny_mono (code_set_led1 (.ref l) (E := E) (Q₁ := fun v z => v = .ref s.heap.objs.size ∧ z = { s with heap := s.heap.push (set0 w) }) ⟨rfl, rfl⟩) fun r z hr => ?_
  cases r with
  | error e => exact hr
  | ok fl =>
    cases fl with
    | ret v =>
      obtain ⟨rfl, rfl⟩ := hr
      have atS : (s.heap.push (set0 w)).get? s.heap.objs.size = some (set0 w) := Heap.get?_push_size _ rfl
      have ty : Shared.TypeIs { s with heap := s.heap.push (set0 w) } (.ref s.heap.objs.size) "set" := ⟨_, atS, rfl⟩
      have g1 := F.called_set.init.lookup
      have g2 := F.called_set.init.bind (.ref s.heap.objs.size)
      repeat any_goals first | assumption | wp_step
      refine codeAny_mono (codeAny_call_builtin (R := wants (fun r z => r = .none ∧ ∃ h' tk L es ep t, z = { s with heap := h', toks := tk } ∧ SetS P w h' s.heap.objs.size L es ep t ∧ Has ks ks.length L ∧ (∀ b o, s.heap.get? b = some o → h'.get? b = some o)) E) F.called_set.init.plain F.entry_set_init (check_set_init_1 ty ?_)) fun r2 z2 hr2 => ?_
      · obtain ⟨⟨oc, od, odat, osl⟩, hol, hc, nl, hd⟩ := hl
        dsimp only at hc hd
        subst hc hd
        have atL : (s.heap.push (set0 w)).get? l = some { cls := .type "tuple", dict := od, data := .seq its nl, slots := osl } := Heap.get?_push_of_some _ hol
        have u1 := F.sub_tuple_set
        have u2 := F.sub_tuple_frozenset
        have u3 : (Value.type "tuple" == Value.type "dict") = false := by decide
        have tl : (s.heap.push (set0 w)).IsTuple l its := ⟨_, atL, rfl, nl, rfl⟩
        unfold Builtin.«set.__init__»
        unfold noKeywords
        unfold Builtin.Frozenset.updateFrom
        generalize hPI : pyIter = PI
        wp_walk
        subst hPI
        refine wpAny_pyIter_tuple tl (wpAny_bind (wpAny_runValue ?_))
        have ls : l < s.heap.objs.size := Heap.lt_size hol
        have gone : ∀ b, s.heap.objs.size ≤ b → s.heap.get? b = none := fun b hb => by
          cases e : s.heap.get? b with
          | none => rfl
          | some o => exact (Nat.lt_irrefl _ (Nat.lt_of_lt_of_le (Heap.lt_size e) hb)).elim
        have pz : (s.heap.push (set0 w)).objs.size = s.heap.objs.size + 1 := Heap.size_push ..
        have nin : s.heap.objs.size ∉ [(s.heap.push (set0 w)).objs.size, l] := fun m => by
          rw [pz] at m
          rcases List.mem_cons.mp m with e | m
          · exact Nat.ne_of_lt (Nat.lt_succ_self _) e
          · exact Nat.ne_of_gt ls (List.mem_singleton.mp m)
        have hval : ∀ (i : Nat) (v : Value), its[i]? = some v → ∃ p, ks[i]? = some p ∧ v = .ref p.1 := fun i v hv => by
          rw [← Array.getElem?_toList, hit, List.getElem?_map] at hv
          cases e : ks[i]? with
          | none =>
            rw [e] at hv
            cases hv
          | some p =>
            rw [e] at hv
            cases hv
            exact ⟨p, rfl, rfl⟩
        refine upds ((Walks.tuple (by simp [hh]) _ l (by rw [pz]; exact Nat.ne_of_lt (Nat.lt_succ_of_lt ls)) its).toS) s.heap.objs.size nin ks iz few hval s.heap hk (gone _ (Nat.le_refl _)) (fun b hb => gone b (by rw [List.mem_singleton.mp hb, pz]; exact Nat.le_succ _)) hu (its.size - 0) 0 _ (by omega) (Nat.zero_le _)
          ⟨⟨_, Heap.get?_push_size _ rfl, rfl, rfl⟩, tl.push _⟩ (fun b o e => Heap.get?_push_of_some _ (Heap.get?_push_of_some _ e)) ⟨[], #[], 0, _, SetS.fresh (Heap.get?_push_of_some _ atS), ⟨(fun p hp => by cases hp), (fun p hp => by simp at hp), Nat.le_refl _⟩⟩ fun s' L es ep t M RS g kp => ?_
        obtain ⟨h', gn, dr, tk, os⟩ := s'
        cases show gn = s.gens from M.gens
        cases show dr = s.drawn from M.drawn
        cases show os = s.os from M.os
        rw [iz] at g
        refine wpAny_pure ?_
        show wpAny _ _ (ret Value.none) _ _ _
        exact wpAny_pure ⟨rfl, h', tk, L, es, ep, t, rfl, RS, g, kp⟩
      · cases r2 with
        | error e => exact hr2
        | ok f2 =>
          cases f2 with
          | ret r =>
            obtain ⟨rfl, h', tk, L, es, ep, t, rfl, RS, g, kp⟩ := hr2
            repeat any_goals first | assumption | wp_step
            exact q _ _ _ _ _ _ RS g kp
          | _ => exact hr2.elim
    | _ => exact hr.elim
/-- set(xs) of a list -/
theorem setOfL {l : Addr} {its : Array Value} (ks : List KA) {Q : Value → Shared → Prop} (hh : A.handled = none) (hl : s.heap.IsList l its) (hit : its.toList = ks.map fun p => Value.ref p.1) (hk : ∀ p, p ∈ ks → IsK P w s.heap p.2 p.1) (few : ks.length < 300)
    (hu : A.units + 3 < cLine) (q : ∀ (h' : Heap) (tk : Nat) L es ep t, SetS P w h' s.heap.objs.size L es ep t → Has ks ks.length L → (∀ b o, s.heap.get? b = some o → h'.get? b = some o) → Q (.ref s.heap.objs.size) { s with heap := h', toks := tk }) :
    wpAny (model P w) A (call (.type "set") [.ref l]) Q E s := by
  have iz : its.size = ks.length := by
    rw [← Array.length_toList, hit, List.length_map]
  have ⟨_, _, f1⟩ := F.called_set.mro
  have f2 := F.called_set.made
  have f3 := F.called_set.sub
  have f4 := F.called_set.notType
  have f5 := F.called_set.canCreate
  have f6 := F.typeCall_set_1 (.ref l)
  refine wpAny_call (codeAny_of_tree ?_)
  show wpAny _ _ (callAny (.type "set") _) _ _ _
  refine wpAny_pure ⟨Code.quiet_builtin _ (by decide +kernel), codeAny_builtin F.entry_type_call ?_⟩
  rw [Around.under_plain (weight_type_call_type "set" [.ref l] []) rfl]
  repeat any_goals first | assumption | wp_step
  refine codeAny_mono (code_set_led1 (.ref l) (E := E) (Q₁ := fun v z => v = .ref s.heap.objs.size ∧ z = { s with heap := s.heap.push (set0 w) }) ⟨rfl, rfl⟩) fun r z hr => ?_
  cases r with
  | error e => exact hr
  | ok fl =>
    cases fl with
    | ret v =>
      obtain ⟨rfl, rfl⟩ := hr
      have atS : (s.heap.push (set0 w)).get? s.heap.objs.size = some (set0 w) := Heap.get?_push_size _ rfl
      have ty : Shared.TypeIs { s with heap := s.heap.push (set0 w) } (.ref s.heap.objs.size) "set" := ⟨_, atS, rfl⟩
      have g1 := F.called_set.init.lookup
      have g2 := F.called_set.init.bind (.ref s.heap.objs.size)
      repeat any_goals first | assumption | wp_step
      refine codeAny_mono (codeAny_call_builtin (R := wants (fun r z => r = .none ∧ ∃ h' tk L es ep t, z = { s with heap := h', toks := tk } ∧ SetS P w h' s.heap.objs.size L es ep t ∧ Has ks ks.length L ∧ (∀ b o, s.heap.get? b = some o → h'.get? b = some o)) E) F.called_set.init.plain F.entry_set_init (check_set_init_1 ty ?_)) fun r2 z2 hr2 => ?_
      · obtain ⟨⟨oc, od, odat, osl⟩, hol, hc, nl, hd⟩ := hl
        dsimp only at hc hd
        subst hc hd
        have atL : (s.heap.push (set0 w)).get? l = some { cls := .type "list", dict := od, data := .seq its nl, slots := osl } := Heap.get?_push_of_some _ hol
        have u1 := F.sub_list_set
        have u2 := F.sub_list_frozenset
        have u3 : (Value.type "list" == Value.type "dict") = false := by decide
        have tl : (s.heap.push (set0 w)).IsList l its := ⟨_, atL, rfl, nl, rfl⟩
        unfold Builtin.«set.__init__»
        unfold noKeywords
        unfold Builtin.Frozenset.updateFrom
        generalize hPI : pyIter = PI
        wp_walk
        subst hPI
        refine wpAny_pyIter_list tl (wpAny_bind (wpAny_runValue ?_))
        have ls : l < s.heap.objs.size := Heap.lt_size hol
        have gone : ∀ b, s.heap.objs.size ≤ b → s.heap.get? b = none := fun b hb => by
          cases e : s.heap.get? b with
          | none => rfl
          | some o => exact (Nat.lt_irrefl _ (Nat.lt_of_lt_of_le (Heap.lt_size e) hb)).elim
        have pz : (s.heap.push (set0 w)).objs.size = s.heap.objs.size + 1 := Heap.size_push ..
        have nin : s.heap.objs.size ∉ [(s.heap.push (set0 w)).objs.size, l] := fun m => by
          rw [pz] at m
          rcases List.mem_cons.mp m with e | m
          · exact Nat.ne_of_lt (Nat.lt_succ_self _) e
          · exact Nat.ne_of_gt ls (List.mem_singleton.mp m)
        have hval : ∀ (i : Nat) (v : Value), its[i]? = some v → ∃ p, ks[i]? = some p ∧ v = .ref p.1 := fun i v hv => by
          rw [← Array.getElem?_toList, hit, List.getElem?_map] at hv
          cases e : ks[i]? with
          | none =>
            rw [e] at hv
            cases hv
          | some p =>
            rw [e] at hv
            cases hv
            exact ⟨p, rfl, rfl⟩
        refine upds ((Walks.list (by simp [hh]) _ l (by rw [pz]; exact Nat.ne_of_lt (Nat.lt_succ_of_lt ls)) its).toS) s.heap.objs.size nin ks iz few hval s.heap hk (gone _ (Nat.le_refl _)) (fun b hb => gone b (by rw [List.mem_singleton.mp hb, pz]; exact Nat.le_succ _)) hu (its.size - 0) 0 _ (by omega) (Nat.zero_le _)
          ⟨⟨_, Heap.get?_push_size _ rfl, rfl, rfl⟩, tl.push _⟩ (fun b o e => Heap.get?_push_of_some _ (Heap.get?_push_of_some _ e)) ⟨[], #[], 0, _, SetS.fresh (Heap.get?_push_of_some _ atS), ⟨(fun p hp => by cases hp), (fun p hp => by simp at hp), Nat.le_refl _⟩⟩ fun s' L es ep t M RS g kp => ?_
        obtain ⟨h', gn, dr, tk, os⟩ := s'
        cases show gn = s.gens from M.gens
        cases show dr = s.drawn from M.drawn
        cases show os = s.os from M.os
        rw [iz] at g
        refine wpAny_pure ?_
        show wpAny _ _ (ret Value.none) _ _ _
        exact wpAny_pure ⟨rfl, h', tk, L, es, ep, t, rfl, RS, g, kp⟩
      · cases r2 with
        | error e => exact hr2
        | ok f2 =>
          cases f2 with
          | ret r =>
            obtain ⟨rfl, h', tk, L, es, ep, t, rfl, RS, g, kp⟩ := hr2
            repeat any_goals first | assumption | wp_step
            exact q _ _ _ _ _ _ RS g kp
          | _ => exact hr2.elim
    | _ => exact hr.elim
end
end TkS
/-! Tk13: len(set(xs)) of tuples of texts and ints. -/
namespace Tk
open PySem PySem.Spec PyProof.Rows L2

def keyD : D → Option Key
  | .int i => some (.inl i)
  | .str x => some (.inr x)
  | _ => none
def keysD : List D → Option (List Key)
  | [] => some []
  | d :: l => match keyD d, keysD l with
    | some k, some r => some (k :: r)
    | _, _ => none
def tupK : D → Option (List Key)
  | .tup l => keysD l
  | _ => none
def tupsK : List D → Option (List (List Key))
  | [] => some []
  | d :: l => match tupK d, tupsK l with
    | some k, some r => some (k :: r)
    | _, _ => none
/-- each once -/
def once {α : Type} [DecidableEq α] : List α → List α
  | [] => []
  | x :: l => if x ∈ l then once l else x :: once l
theorem mem_once {α : Type} [DecidableEq α] {x : α} : ∀ {l : List α}, x ∈ once l ↔ x ∈ l
  | [] => Iff.rfl
  | y :: l => by
    unfold once
    split
    · rename_i h
      rw [mem_once, List.mem_cons]
      exact ⟨.inr, fun z => z.elim (fun e => e ▸ h) id⟩
    · rw [List.mem_cons, List.mem_cons, mem_once]
theorem nodup_once {α : Type} [DecidableEq α] : ∀ {l : List α}, (once l).Nodup
  | [] => List.nodup_nil
  | y :: l => by
    unfold once
    split
    · exact nodup_once
    · rename_i h
      exact List.nodup_cons.mpr ⟨fun z => h (mem_once.mp z), nodup_once⟩
theorem once_len {α : Type} [DecidableEq α] {l m : List α} (nd : m.Nodup) (h : ∀ x, x ∈ m ↔ x ∈ l) : m.length = (once l).length :=
  ((List.perm_ext_iff_of_nodup nd nodup_once).mpr fun x => (h x).trans mem_once.symm).length_eq
def fLenSet : D → Option RV
  | .tup l => match tupsK l with
    | some ks => if l.length < 300 then some (.dat (.int ((once ks).length : Nat))) else none
    | none => none
  | .lst l => match tupsK l with
    | some ks => if l.length < 300 then some (.dat (.int ((once ks).length : Nat))) else none
    | none => none
  | _ => none
section
variable {G : Tb} {XR : XW} {W : WX} {X : Cx}
theorem key_v {A : Hid} {H : Hp} {d : D} {k : Key} {v : V} (e : keyD d = some k) (r : RepD G A H d v) : v = kV k := by
  cases d <;> try (cases e; done)
  · cases e
    exact t_int (.inl r)
  · cases e
    exact t_str (.inl r)
theorem keys_v {A : Hid} {H : Hp} : ∀ {l : List D} {k : List Key} {vs : List V}, keysD l = some k → RepDs G A H l vs → vs = k.map kV
  | [], _, _, e, r => by
    cases r.inv0
    cases e
    rfl
  | d :: l, _, _, e, r => by
    obtain ⟨v, vs, rfl, r1, r2⟩ := r.inv
    unfold keysD at e
    split at e
    · rename_i h1 h2
      cases e
      rw [key_v h1 r1, keys_v h2 r2]
      rfl
    · cases e
theorem tups_v {A : Hid} {H : Hp} : ∀ {l : List D} {kl : List (List Key)} {vs : List V}, tupsK l = some kl → RepDs G A H l vs → ∃ ks : List TkS.KA, vs = ks.map (fun p => V.ref p.1) ∧ ks.map (·.2) = kl ∧ ∀ p, p ∈ ks → SqT G.K H p.1 (p.2.map kV)
  | [], _, _, e, r => by
    cases r.inv0
    cases e
    exact ⟨[], rfl, rfl, fun p hp => by cases hp⟩
  | d :: l, _, _, e, r => by
    obtain ⟨v, vs, rfl, r1, r2⟩ := r.inv
    unfold tupsK at e
    split at e
    · rename_i k kl h1 h2
      cases e
      obtain ⟨ks, e1, e2, e3⟩ := tups_v h2 r2
      cases d <;> try (cases h1; done)
      obtain ⟨a, ws, rfl, sq, rs⟩ := t_tup (.inl r1)
      have ew := keys_v (show keysD _ = some k from h1) rs
      subst ew
      refine ⟨(a, k) :: ks, by rw [e1]; rfl, by rw [← e2]; rfl, fun p hp => ?_⟩
      rcases List.mem_cons.mp hp with rfl | hp
      · exact sq
      · exact e3 p hp
    · cases e
theorem isK_sq {pins : List (Addr × Obj)} {σ : L2.St} {H : Hp} {s : Shared} (I : Inv X pins σ H s) {p : Addr} {k : List Key} (sq : SqT X.K H p (k.map kV)) : TkS.IsK X.prog X.w s.heap k p := by
  obtain ⟨its, rv, ⟨o, ho, hc, n, hd⟩, _⟩ := I.tuple sq
  have go : ∀ {k : List Key} {us : List Value}, Vals (k.map kV) us → ItemsAre (mixKind X.prog X.w) k us := fun {k} => by
    induction k with
    | nil =>
      intro us h
      cases h
      exact .nil
    | cons k ks ih =>
      intro us h
      cases h with
      | cons h1 h2 => exact .cons (kV_is h1) (ih h2)
  exact ⟨o, its.toArray, n, ho, hc, hd, by simpa using go rv⟩
def tLenSetK (K : PySem.W.Frag) (ta : TE) : TE := fun σ H Q => ta σ H fun x H1 => ∃ (l : Addr) (ks : List TkS.KA), x = V.ref l ∧ (SqT K H1 l (ks.map fun p => V.ref p.1) ∨ SqL K H1 l (ks.map fun p => V.ref p.1)) ∧ (∀ p, p ∈ ks → SqT K H1 p.1 (p.2.map kV)) ∧ ks.length < 300 ∧ Q (.int ((once (ks.map (·.2))).length : Nat)) H1
theorem pe_lenSetK {a : Expr} {ta : TE} {p p2 q pos : Pos} (hc : X.calm = true) (hun : X.A.units + 64 < cLine) (g1 : Gl X "len") (m1 : X.mg "len" = none) (g2 : Gl X "set") (m2 : X.mg "set" = none) (ha : PE X a ta) (na : starEach [a] X.env = (false, eval a X.env) :: starEach [] X.env := by rfl) :
    PE X (.Call (.Name "len" p) [.Call (.Name "set" p2) [a] [] q] [] pos) (tLenSetK X.K ta) := by
  refine ⟨fun pins s σ H Q I h => Call_ (ld_blt I g1 m1 PySem.boot_len ?_)⟩
  refine PyProof.Rows.callWith_builtin1 (PyProof.Rows.args_cons ?_ rfl) rfl rfl
  refine Call_ (ld_blt I g2 m2 PyProof.Rows.boot_set ?_)
  refine PyProof.Rows.callWith_type1 (PyProof.Rows.args_cons (thn (ha.run pins s σ H _ I h) fun v s1 ⟨x, H1, I1, r1, q1⟩ => PyProof.Rows.args_nil ?_) na) na rfl
  obtain ⟨l, ks, rfl, sq, each, few, q1⟩ := q1
  cases r1
  have eq : ∀ its : List Value, Vals (ks.map fun p => V.ref p.1) its → its = ks.map fun p => Value.ref p.1 := fun its rv => by
    have := vals_cls (ks.map (·.1)) (us := its) (by rw [List.map_map]; exact rv)
    rw [this, List.map_map]
    rfl
  rcases sq with sq | sq
  · obtain ⟨its, rv, ⟨o, ho, hcl, n, hd⟩, _⟩ := I1.tuple sq
    refine TkS.setOf ks (I1.ok.hd hc) ⟨o, ho, hcl, n, hd⟩ (by simpa using eq its rv) (fun p hp => isK_sq I1 (each p hp)) few (by omega) fun h' tk L es ep t RS g kp => ?_
    refine PyProof.Rows.args_nil ?_
    obtain ⟨os, e1, e2, e3⟩ := RS.ob
    have I2 : Inv X pins σ H1 { s1 with heap := h', toks := tk } := I1.kept fun b o e => kp b o e
    have len : es.size = (once (ks.map (·.2))).length := by
      rw [RS.size, ← List.length_map (f := (·.2)) (as := L)]
      refine once_len RS.nd fun k => ⟨fun hk => ?_, fun hk => ?_⟩
      · obtain ⟨y, hy, rfl⟩ := List.mem_map.mp hk
        exact List.mem_map_of_mem (List.mem_of_mem_take (g.sub y hy))
      · obtain ⟨y, hy, rfl⟩ := List.mem_map.mp hk
        exact g.all y (by rw [List.take_length]; exact hy)
    have few2 : es.size ≤ 300 := by
      have := g.len
      rw [RS.size]
      omega
    exact call_len_set e1 e2 e3 RS.fits (by omega) ⟨.int (es.size : Nat), H1, I2.tok _, ⟨_, rfl⟩, by rw [len]; exact q1⟩
  · obtain ⟨its, rv, ⟨o, n, ho, hcl, _, hd⟩, _⟩ := I1.list sq
    refine TkS.setOfL ks (I1.ok.hd hc) ⟨o, ho, hcl, n, hd⟩ (by simpa using eq its rv) (fun p hp => isK_sq I1 (each p hp)) few (by omega) fun h' tk L es ep t RS g kp => ?_
    refine PyProof.Rows.args_nil ?_
    obtain ⟨os, e1, e2, e3⟩ := RS.ob
    have I2 : Inv X pins σ H1 { s1 with heap := h', toks := tk } := I1.kept fun b o e => kp b o e
    have len : es.size = (once (ks.map (·.2))).length := by
      rw [RS.size, ← List.length_map (f := (·.2)) (as := L)]
      refine once_len RS.nd fun k => ⟨fun hk => ?_, fun hk => ?_⟩
      · obtain ⟨y, hy, rfl⟩ := List.mem_map.mp hk
        exact List.mem_map_of_mem (List.mem_of_mem_take (g.sub y hy))
      · obtain ⟨y, hy, rfl⟩ := List.mem_map.mp hk
        exact g.all y (by rw [List.take_length]; exact hy)
    have few2 : es.size ≤ 300 := by
      have := g.len
      rw [RS.size]
      omega
    exact call_len_set e1 e2 e3 RS.fits (by omega) ⟨.int (es.size : Nat), H1, I2.tok _, ⟨_, rfl⟩, by rw [len]; exact q1⟩
theorem ev_lenSet {a : Expr} {f : EF} {p p2 q pos : Pos} (hk : X.K = G.K) (hc : X.calm = true) (hun : X.A.units + 64 < cLine) (g1 : Gl X "len") (m1 : X.mg "len" = none) (g2 : Gl X "set") (m2 : X.mg "set" = none) (ha : PE X a (tEv G XR W f)) (na : starEach [a] X.env = (false, eval a X.env) :: starEach [] X.env := by rfl) :
    PE X (.Call (.Name "len" p) [.Call (.Name "set" p2) [a] [] q] [] pos) (tEv G XR W (cUn fLenSet f)) :=
  PE_imp (pe_lenSetK hc hun g1 m1 g2 m2 ha na) fun σ H Q h => by
    refine use1 (r := fun x H1 Q => ∃ (l : Addr) (ks : List TkS.KA), x = V.ref l ∧ (SqT X.K H1 l (ks.map fun p => V.ref p.1) ∨ SqL X.K H1 l (ks.map fun p => V.ref p.1)) ∧ (∀ p, p ∈ ks → SqT X.K H1 p.1 (p.2.map kV)) ∧ ks.length < 300 ∧ Q (.int ((once (ks.map (·.2))).length : Nat)) H1) (fun d rv A H x Q e t h q => ?_) h
    cases d <;> try (cases e; done)
    · rename_i l
      unfold fLenSet at e
      simp only at e
      split at e
      · rename_i kl hkl
        split at e
        · rename_i hl
          cases e
          obtain ⟨b, vs, rfl, sq, rs⟩ := t_tup h
          obtain ⟨ks, e1, e2, e3⟩ := tups_v hkl rs
          subst e1
          refine ⟨b, ks, rfl, .inl (by rw [hk]; exact sq), fun p hp => by rw [hk]; exact e3 p hp, ?_, q _ A H (Ext.refl t) (by rw [e2]; exact rvI)⟩
          have := rs.length
          rw [List.length_map] at this
          omega
        · cases e
      · cases e
    · rename_i l
      unfold fLenSet at e
      simp only at e
      split at e
      · rename_i kl hkl
        split at e
        · rename_i hl
          cases e
          obtain ⟨b, vs, rfl, sq, rs⟩ := t_lst h
          obtain ⟨ks, e1, e2, e3⟩ := tups_v hkl rs
          subst e1
          refine ⟨b, ks, rfl, .inr (by rw [hk]; exact .inl (.inl sq)), fun p hp => by rw [hk]; exact e3 p hp, ?_, q _ A H (Ext.refl t) (by rw [e2]; exact rvI)⟩
          have := rs.length
          rw [List.length_map] at this
          omega
        · cases e
      · cases e
end
end Tk
/-! Tk14: defs as values, and their calls. -/
namespace Tk
open PySem PySem.Spec PyProof.Rows L2
section
variable {G : Tb} {XR : XW} {W : WX} {X : Cx}
theorem rep_fn {A : Hid} {H : Hp} {n : Nat} {f : Addr} (h : G.fns n = some f) : RepD G A H (.fn n) (.ref f) := by
  unfold RepD
  exact ⟨f, rfl, h⟩
theorem call_pre {n : Nat} {Φ : List D → Option RR} {a : AF} {σ : L2.St} {A : Hid} {H : Hp} {env : Env} {Q : VK} (R : Rep G A σ H env) (p : Post G XR W σ A H env (fun o e A' H' => ∀ v, OutOk G H A' σ H' e o v → Q v H') (cCall n Φ a env)) :
    tEvA G XR W a σ H (fun vs H1 => spP G XR n Φ vs H1 Q fun c d H' => W c d σ H') := by
  refine ⟨A, env, R, ?_⟩
  unfold cCall at p
  cases hf : a env with
  | none =>
    rw [hf] at p
    exact p
  | some r =>
    rw [hf] at p
    cases r with
    | ex x e1 => exact p
    | ok ds e1 =>
      intro A1 H1 R1 F1 vs k1
      rw [bd_ok] at p
      split at p
      · rename_i hn
        exact ⟨A1, ds, by rw [← k1.length]; exact hn, R1.tup, k1, call_post R1 F1 (Post.imp F1 (fun _ _ _ _ _ q => q) p)⟩
      · exact p.elim
def cCallF (i n : Nat) (Φs : Nat → Option (List D → Option RR)) (a : AF) : EF := fun env => match (env[i]? : Option (Option Cell)) with
  | some (some (.dat (.fn j))) => match Φs j with
    | some Φ => cCall n Φ a env
    | none => none
  | _ => none
theorem ev_callF {k i n : Nat} {Φs : Nat → Option (List D → Option RR)} {x : Str} {p pos : Pos} {e : Expr} {es : List Expr} {a : AF} (hall : ∀ j Φ f, Φs j = some Φ → G.fns j = some f → ∃ fd ps, FnG X.prog X.w X.K X.mg X.base k f fd ps (spP G XR n Φ) ∧ PySem.W.keepIn X.K (.ref f) = true ∧ Binds X.K fd ps [])
    (hr : Room k X.A) (hgu : X.A.guards = some []) (tk : Takes X W) (hn : PE X (.Name x p) (tVar i)) (ha : PA X (e :: es) (tEvA G XR W a)) (he : starEach (e :: es) X.env = (false, eval e X.env) :: starEach es X.env := by rfl) (hpl : (backTo pos (starEach es X.env)).any (·.1) = false := by rfl) :
    PE X (.Call (.Name x p) (e :: es) [] pos) (tEv G XR W (cCallF i n Φs a)) := by
  refine ⟨fun pins s σ H Q I ⟨A, env, R, q⟩ => ?_⟩
  unfold cCallF at q
  split at q
  · rename_i j hj
    split at q
    · rename_i Φ hΦ
      obtain ⟨v, ev, hv⟩ := R.cell i _ hj
      unfold CellOk RepD at hv
      obtain ⟨f, rfl, hf⟩ := hv
      obtain ⟨fd, ps, F, hk, hb⟩ := hall j Φ f hΦ hf
      have t := call_pre R q
      refine wpAny_Call_Name_kw (thn (hn.run pins s σ H (fun v H1 => v = .ref f ∧ H1 = H) I ⟨.ref f, ev, rfl, rfl⟩) fun u s1 ⟨v, H1, I1, r1, q1⟩ => ?_)
      obtain ⟨rfl, rfl⟩ := q1
      cases r1
      refine PySem.W.callWith_K (h₀ := X.base) I.ok.mod.kin hk (thn (ha.run pos pins s1 σ _ _ I1 t) fun us s2 ⟨vs, H2, I2, r2, q2⟩ => ⟨I2.kIn, ?_⟩) he hpl
      have hl : (us ++ []).length = ps.length := by
        rw [List.append_nil, ← r2.length]
        exact F.len _ _ _ _ q2
      have hb1 := hb s2 us I2.kIn hl
      rw [List.append_nil] at hb1
      exact run_g F hr hgu tk I2 hb1 r2 q2
    · exact q.elim
  · exact q.elim
end
end Tk
/-! Tk15: list('..'). -/
namespace Tk
open PySem PySem.Spec PyProof.Rows L2
section
variable {G : Tb} {XR : XW} {W : WX} {X : Cx}
def rListS : List V → Hp → VK → Prop := fun xs H Q => ∃ z : Str, xs = [.str z] ∧ z.cps.size ≤ 1000000 ∧ ∀ l, H l = none → Q (.ref l) (upd H l (.lst (z.cps.toList.map fun c => V.str ⟨#[c]⟩)))
theorem call_listS (hc : X.calm = true) : CallR X (.type "list") rListS := by
  intro pins s σ H xs us Q I r h
  obtain ⟨z, rfl, hz, q⟩ := h
  obtain ⟨u, rfl, t, rfl⟩ := vals1 r
  have hz2 : z.cps.size ≤ sizeLine := Nat.le_trans hz (by decide)
  refine PySem.call_list_str (I.ok.hd hc) z t (hn := hz2) fun h' tk acc c kp hS hi => ?_
  have rv : Vals (z.cps.toList.map fun c => V.str ⟨#[c]⟩) acc.toList := by
    have go : ∀ (l : List Nat) (vs : List Value), l.length = vs.length → (∀ (i : Nat) v, vs[i]? = some v → ∃ c u, l[i]? = some c ∧ v = .str ⟨#[c]⟩ u) → Vals (l.map fun c => V.str ⟨#[c]⟩) vs := fun l => by
      induction l with
      | nil =>
        intro vs hl _
        cases vs with
        | nil => exact .nil
        | cons _ _ => cases hl
      | cons c l ih =>
        intro vs hl hv
        cases vs with
        | nil => cases hl
        | cons v vs =>
          obtain ⟨c', u, e, rfl⟩ := hv 0 v rfl
          cases e
          exact .cons ⟨u, rfl⟩ (ih vs (by simpa using hl) fun i y hy => hv (i + 1) y hy)
    refine go _ _ ?_ fun i v hv => ?_
    · have := hi.1
      simp [this]
    · obtain ⟨c, u, e, e2⟩ := hi.2 i v (by simpa using hv)
      exact ⟨c, u, by simpa using e, e2⟩
  refine ⟨.ref s.heap.objs.size, _, I.laid (t' := tk) kp (Nat.le_refl _) (show ObjOk X.prog X.w _ h' _ (.lst (z.cps.toList.map fun c => V.str ⟨#[c]⟩)) from ⟨by simpa using hz2, acc.toList, c, rv, by simpa using hS⟩), rfl, q _ (I.hok.fresh (Nat.le_refl _))⟩
def fListA : D → Option RV
  | .lst l => some (.fresh (.lst l))
  | .tup l => some (.fresh (.lst l))
  | .str z => if szOk z.cps.size = true then some (.fresh (.lst (z.cps.toList.map fun c => .str ⟨#[c]⟩))) else none
  | _ => none
def rListA (K : PySem.W.Frag) : List V → Hp → VK → Prop := fun xs H Q => (∃ p ys, xs = [.ref p] ∧ (SqL K H p ys ∨ SqT K H p ys) ∧ ∀ l, H l = none → Q (.ref l) (upd H l (.lst ys))) ∨ rListS xs H Q
theorem call_listA (hc : X.calm = true) : CallR X (.type "list") (rListA X.K) := call_list_of.or (call_listS hc)
theorem signs_rep {A : Hid} {H : Hp} : ∀ l : List Nat, RepDs G A H (l.map fun c => D.str ⟨#[c]⟩) (l.map fun c => V.str ⟨#[c]⟩)
  | [] => .nil
  | c :: l => .cons rep_str (signs_rep l)
theorem o_listA : Cb1 G (rListA G.K) fListA := fun d rv A H x Q e t h q => by
  cases d <;> try (cases e; done)
  · rename_i z
    have e : (if szOk z.cps.size = true then some (RV.fresh (.lst (z.cps.toList.map fun c => D.str ⟨#[c]⟩))) else none) = some rv := e
    split at e
    · rename_i hz
      cases e
      cases t_str h
      exact .inr ⟨z, rfl, of_decide_eq_true hz, fun l n => q _ _ _ (Ext.newLst t n _) (rv_lst t (signs_rep _) n)⟩
    · cases e
  · rename_i l
    exact .inl (o_list (.tup l) rv A H x Q e t h q)
  · rename_i l
    exact .inl (o_list (.lst l) rv A H x Q e t h q)
end
end Tk
/-! Tk16: defs whose parameters are handed in by name alone. -/
namespace Tk
open PySem PySem.Spec PyProof.Rows L2
structure FnI0 (P : Program) (w : World) (K : PySem.W.Frag) (mg : Str → Option Value) (base : Heap) (nm : Str) (k : Nat) (ps : List Str) (sp : Sp) (f : Addr) (fd : FuncData) : Prop where
  fn : FnG P w K mg base k f fd ps sp
  mg : mg nm = some (.ref f)
  kp : PySem.W.keepIn K (.ref f) = true
end Tk
namespace Tk
open PySem PySem.Spec PyProof.Rows L2
section
variable {G : Tb} {XR : XW} {W : WX} {X : Cx} {fx : List Nat}
/-- a < b < c as a value -/
def chV (F F' : D → D → Option RV) (h : EF) (o o' : Out) (e : Env) : Option (Rs Out) := bd (fin2 F e o o') fun z e1 => match z with
  | .dat (.bl true) => bd (h e1) fun o2 e2 => bd (fin2 F' e2 o' o2) fun z2 e3 => match z2 with
    | .dat (.bl b) => some (.ok (.dat (.bl b)) e3)
    | _ => none
  | .dat (.bl false) => some (.ok (.dat (.bl false)) e1)
  | _ => none
def cChainV (F F' : D → D → Option RV) (f g h : EF) : EF := fun env => bd (f env) fun o e => bd (g e) fun o' e' => chV F F' h o o' e'
end
end Tk
/-! TkZ: zip(a, b, strict=True) of two tuples of one length. -/
namespace TkZ
open PySem
abbrev ZipS (h : Heap) (z ti to : Addr) (f0 : Value) : Prop :=
  h.get? z = some { cls := .type "zip", dict := none, data := .fields #[f0, .bool false, .bool true, .ref ti, .ref to], slots := #[] }
section
variable {prog : Program} {w : World} {A : Around} {E : Value → Shared → Prop} {s : Shared}
end
end TkZ
/-! TkZ2: for x, y in zip(a, b, strict=True), a and b tuples of one length. -/
namespace TkZ
open PySem
section
variable {prog : Program} {w : World} {A : Around} {E : Value → Shared → Prop} {s : Shared}
end
abbrev zH1 (h : Heap) (a : Addr) : Heap := h.push { cls := .type "tuple_iterator", data := .fields #[.ref a, .int 0 0] }
abbrev zH2 (h : Heap) (a b : Addr) : Heap := (zH1 h a).push { cls := .type "tuple_iterator", data := .fields #[.ref b, .int 0 0] }
abbrev zH3 (h : Heap) (a b : Addr) : Heap := (zH2 h a b).push { cls := .type "tuple", data := .seq #[.ref h.objs.size, .ref (zH1 h a).objs.size] }
abbrev zH4 (h : Heap) (a b : Addr) : Heap := (zH3 h a b).push { cls := .type "tuple", data := .seq #[.none, .none] }
abbrev zH5 (h : Heap) (a b : Addr) : Heap := (zH4 h a b).push { cls := .type "zip", data := .fields #[.none, .bool false, .bool true, .ref (zH2 h a b).objs.size, .ref (zH3 h a b).objs.size] }
section
variable {prog : Program} {w : World} {A : Around} {E : Value → Shared → Prop} {s : Shared}
end
section
variable {M : Model} {A : Around} {E : Value → Shared → Prop} {s : Shared} {env : Env}
end
open PySem.Spec PyProof.Rows L2
/-- two tuples of one length, the items in new pairs -/
def ItzS (K : PySem.W.Frag) (a b : Addr) : It :=
  ⟨fun i H => ∃ (xs ys : List V) (x y : V), SqT K H a xs ∧ SqT K H b ys ∧ xs[i]? = some x ∧ ys[i]? = some y,
    fun i H v H' => ∃ (T : Addr) (x y : V) (o : Obj), v = .ref T ∧ H T = none ∧ o.dict = none ∧ H' = upd H T (.frz o (.tup [x, y])) ∧ (∀ xs, SqT K H a xs → xs[i]? = some x) ∧ ∀ ys, SqT K H b ys → ys[i]? = some y,
    fun i H => ∃ xs ys : List V, SqT K H a xs ∧ SqT K H b ys ∧ xs.length ≤ i ∧ ys.length ≤ i⟩
def iZipS (K : PySem.W.Frag) (ta : TA) : TI := fun σ H R => ta σ H fun vs H1 => ∃ a b xs ys, vs = [.ref a, .ref b] ∧ SqT K H1 a xs ∧ SqT K H1 b ys ∧ R (ItzS K a b) H1
end TkZ
/-! TkZ3: strict zip for mirrors. -/
namespace Tk
open PySem PySem.Spec PyProof.Rows L2
section
variable {G : Tb} {XR : XW} {W : WX} {X : Cx} {fx : List Nat}
def pairs (xs ys : List D) : List D := List.zipWith (fun x y => D.tup [x, y]) xs ys
def iZs (a : AF) : AF := fun env => bd (a env) fun ds e => match ds with
  | [.tup xs, .tup ys] => if xs.length = ys.length then some (.ok (pairs xs ys) e) else none
  | _ => none
end
end Tk
/-! Tk17: list.insert. -/
namespace Tk
open PySem PySem.Spec PyProof.Rows L2
section
variable {G : Tb} {XR : XW} {W : WX} {X : Cx} {fx : List Nat}
def fInsert (l ds : List D) : Option (D × List D) := match ds with
  | [.int i, d] => if szOk l.length = true ∧ small62 i = true ∧ 0 ≤ i then some (.non, l.take i.toNat ++ [d] ++ l.drop i.toNat) else none
  | _ => none
def rInsertT : V → List V → Hp → VK → Prop := fun x vs H Q => ∃ (l : Addr) (xs : List V) (i : Int) (y : V), x = .ref l ∧ vs = [.int i, y] ∧ H l = some (.lst xs) ∧ xs.length < sizeLine ∧ 0 ≤ i ∧ i < 2 ^ 63 ∧ Q .non (upd H l (.lst (xs.take i.toNat ++ [y] ++ xs.drop i.toNat)))
end
end Tk
/-! Tk18: own exceptions whose __init__ keeps fields: raised, and read where they are caught. -/
namespace Tk
open PySem PySem.Spec PyProof.Rows L2
/-- B.__init__(self, ..), B a class of the program whose __init__ is ValueError's -/
theorem pe_clsInit {X : Cx} {e : Expr} {es : List Expr} {ta : TA} {p1 p2 pos : Pos} {pl : Sem Bool} {x : Str} {B : Addr} {mc : Value} (hg : Gl X x) (hm : X.mg x = some (.ref B)) (sg : PySem.W.specialIn X.K (.ref B) "__getattribute__" = some (some (.builtin "type.__getattribute__"))) (rd : PySem.W.readsIn X.K B mc = true)
    (fv : PySem.W.findCls X.K (.ref B) mc "__init__" = some (.val (.builtin "ValueError.__init__"))) (ha : PA X (e :: es) ta)
    (hc : eval (.Call (.Attribute (.Name x p1) "__init__" p2) (e :: es) [] pos) X.env = (do
      let ov ← eval (.Name x p1) X.env
      standAt p2.atName
      let (f, first) ← holding [ov] (getMethod ov "__init__" pl)
      callWith pos f first (backTo pos (starEach (e :: es) X.env)) (backToKw pos (keywordEach [] X.env))) := by rfl)
    (hdb : (x == ("__debug__" : Str)) = false := by decide) (he : starEach (e :: es) X.env = (false, eval e X.env) :: starEach es X.env := by rfl) (hpl : (backTo pos (starEach es X.env)).any (·.1) = false := by rfl) :
    PE X (.Call (.Attribute (.Name x p1) "__init__" p2) (e :: es) [] pos) (tVeI X.K ta) := by
  refine ⟨fun pins s σ H Q I h => PySem.W.methodCall_KW (ld_glob I hg hm ?_ hdb) hc⟩
  refine PySem.W.method_cls I.kIn sg (PySem.W.cls_value I.kIn rd fv (by decide +kernel) ?_)
  show wpAny _ _ (callWith pos (Value.builtin "ValueError.__init__") [] (backTo pos (starEach (e :: es) X.env)) []) _ _ _
  refine PyProof.Rows.callWith_method1 (thn (ha.run pos pins _ σ H _ (I.tok _) h) fun us s1 ⟨vs, H1, J, r, a, C, ws, ev, hl, T, ea, q⟩ => ?_) he hpl
  subst ev
  cases r with
  | @cons _ u0 _ ur ra rr =>
    obtain rfl : u0 = Value.ref a := ra
    have few : ur.length ≤ sizeLine := by
      rw [← Paired.length rr, sizeLine_eq]
      omega
    exact oinit_ok T J ea few fun s' J2 => ⟨.non, H1, J2, rfl, q⟩
/-- what the __init__ of such a class promises: its fields, the last one first -/
def spI (C : Addr) (ns : List Str) : Sp := fun vs H Q _ => ∃ (a : Addr) (ys : List V), vs = .ref a :: ys ∧ ys.length = ns.length ∧ H a = some (exo a C none) ∧
  ∀ d, H d = none → d ≠ a → Q .non (upd (upd H d (exd d (ns.zip ys).reverse)) a (exo a C (some d)))
theorem spI.len {C : Addr} {ns : List Str} {vs : List V} {H : Hp} {Q : VK} {E : XK} (h : spI C ns vs H Q E) : vs.length = ns.length + 1 := by
  obtain ⟨a, ys, rfl, hl, _⟩ := h
  rw [List.length_cons, hl]
/-- such a class, its __init__ -/
structure XnI (P : Program) (w : World) (K : PySem.W.Frag) (mg : Str → Option Value) (base : Heap) (C : Addr) (ns ps : List Str) (fI : Addr) (fd : FuncData) : Prop where
  T : OexC K C
  iC : PySem.W.findIn K (.ref C) "__init__" = some (some (.ref fI))
  tI : PySem.W.typeIn K (.ref fI) = some (.type "function")
  fn : FnOk P w K mg base (L2.CX P w) 1 fI fd ps (spI C ns)
  bd : Binds K fd ps []
/-- one field -/
theorem init1 {X : Cx} {C : Addr} {f m : Str} {s0 s1 : Stmt} {D : Ends} {N : List Str} {vs : List V} {H : Hp} {Q : VK} {E : XK} (T : OexC X.K C) (n1 : PySem.W.findIn X.K (.ref C) f = some none)
    (h0 : PS X s0 (tDrop (tVeI X.K (tCons (tVar 0) (tCons (tC (.str m)) tNil))))) (h1 : PS X s1 (tOst X.K f (tVar 0) (tVar 1))) (h : spI C [f] vs H Q E) (hN : N.length = 2) :
    ∃ t, PSs X [s0, s1] t ∧ t { nx := fun _ H' => Q .non H', rt := Q } (L2.start N vs) H := by
  obtain ⟨a, ys, rfl, hl, ea, q⟩ := h
  match ys, hl with
  | [y], _ =>
    match N, hN with
    | [x0, x1], _ =>
      refine ⟨_, pss_cons h0 (pss_one h1), ?_⟩
      have v0 : (L2.start [x0, x1] [V.ref a, y])[0]? = some (some (.ref a)) := rfl
      have v1 : (L2.start [x0, x1] [V.ref a, y])[1]? = some (some y) := rfl
      refine ⟨_, v0, a, C, [.str m], rfl, by simp, T, ea, ?_⟩
      exact ⟨_, v1, _, v0, a, C, rfl, T, n1, .inl ⟨ea, fun d n ne => q d n ne⟩⟩
theorem zip_rev {α β : Type} : ∀ {l : List α} {m : List β}, l.length = m.length → (l.zip m).reverse = l.reverse.zip m.reverse
  | [], [], _ => rfl
  | a :: l, b :: m, h => by
    have h : l.length = m.length := by simpa using h
    rw [List.zip_cons_cons, List.reverse_cons, List.reverse_cons, List.reverse_cons, zip_rev h, List.zip_append (by simpa using h)]
    rfl
  | [], _ :: _, h => by simp at h
  | _ :: _, [], h => by simp at h
theorem RepDs.reverse {G : Tb} {A : Hid} {H : Hp} : ∀ {ds : List D} {vs : List V}, RepDs G A H ds vs → RepDs G A H ds.reverse vs.reverse
  | [], _, h => by
    obtain rfl := h.inv0
    exact .nil
  | d :: ds, _, h => by
    obtain ⟨v, r, rfl, h1, h2⟩ := h.inv
    rw [List.reverse_cons, List.reverse_cons]
    exact h2.reverse.append (.cons h1 .nil)
section
variable {G : Tb} {W : WX} {X : Cx} {fx : List Nat}
/-- raise C(e, ..), with fields -/
def sRaiseF (k n : Nat) (a : AF) : SF := fun env => bd (a env) fun ds e => if ds.length = n then some (.ex ⟨k, ds.reverse⟩ e) else none
theorem passF {X : Cx} : Passes (L2.CX X.prog X.w) X (fun _ _ _ => False) := fun _ _ _ _ _ _ _ c => by
  obtain ⟨_, _, _, _, _, _, _, _, _, _, _, _, z⟩ := c
  exact z.elim
theorem es_raiseF {C fI : Addr} {x : Str} {k n j : Nat} {fd : FuncData} {ps ns : List Str} {p pos pos' : Pos} {e : Expr} {es : List Expr} {a : AF} (hc : X.calm = true) (tk : Takes X W) (T : OexC X.K C) (iC : PySem.W.findIn X.K (.ref C) "__init__" = some (some (.ref fI))) (tI : PySem.W.typeIn X.K (.ref fI) = some (.type "function"))
    (F1 : FnOk X.prog X.w X.K X.mg X.base (L2.CX X.prog X.w) j fI fd ps (spI C ns)) (hr : Room (j + 1) X.A) (hb : Binds X.K fd ps []) (hg : Gl X x) (hm : X.mg x = some (.ref C)) (hcl : G.cls k = some (C, ns.reverse)) (hn : ns.length = n) (hn2 : n ≤ 900) (ha : PA X (e :: es) (tEvA G XRx W a))
    (hdb : (x == ("__debug__" : Str)) = false := by decide) (he : starEach (e :: es) X.env = (false, eval e X.env) :: starEach es X.env := by rfl) (hpl : (backTo pos (starEach es X.env)).any (·.1) = false := by rfl) :
    PS X (.Raise (some (.Call (.Name x p) (e :: es) [] pos)) none pos') (tEx G XRx W fx (sRaiseF k n a)) :=
  PS_imp (ps_raise hc tk (pmk_oex T iC tI F1 hr hb (dvs := []) .nil passF hg hm ha hdb he hpl)) fun D σ H ⟨A, env, R, q⟩ => by
    refine ⟨A, env, R, ?_⟩
    unfold sRaiseF at q
    cases hf : a env with
    | none =>
      rw [hf] at q
      exact q.elim
    | some r =>
      cases r with
      | ex y e1 =>
        rw [hf] at q
        exact fun A' H' c d R' F' x => q σ A' H' c d R' (Keep.refl _ _) F' x
      | ok ds e1 =>
        rw [hf, bd_ok] at q
        intro A1 H1 R1 F1 vs rv
        split at q
        · rename_i hl
          refine ⟨by rw [← rv.length, hl]; omega, fun b hb => ⟨b, vs ++ [], rfl, by rw [List.append_nil, ← rv.length, hl, hn], by rw [upd_same], fun d hd ne => ?_⟩⟩
          rw [List.append_nil]
          rw [upd_ne ne] at hd
          refine ⟨rfl, d, (ns.zip vs).reverse, by rw [upd_same], by rw [upd_ne ne, upd_same], hd, ?_⟩
          have eH : upd (del (upd (upd (upd H1 b (exo b C none)) d (exd d (ns.zip vs).reverse)) b (exo b C (some d))) b) d (.xd (ns.zip vs).reverse) = upd H1 d (.xd (ns.zip vs).reverse) := by
            funext c
            by_cases h1 : c = d
            · subst h1
              rw [upd_same, upd_same]
            · rw [upd_ne h1, upd_ne h1]
              by_cases h2 : c = b
              · subst h2
                rw [del_same, hb]
              · rw [del_ne h2, upd_ne h2, upd_ne h1, upd_ne h2]
          rw [eH]
          have x1 := Ext.newTup (A := A1) R1.tup hd (.xd (ns.zip vs).reverse)
          refine q σ A1 _ (.ref C) (some d) (x1.rep R1) (Keep.refl _ _) (F1.trans (x1.fr _)) ⟨C, ns.reverse, hcl, rfl, .inr ⟨C, ns.reverse, d, vs.reverse, rfl, fun z => ?_, hcl, ?_, ?_, ?_⟩⟩
          · obtain ⟨o, ho, _⟩ := R1.tup d z
            rw [hd] at ho
            cases ho
          · rw [upd_same, zip_rev (by rw [← rv.length, hl, hn])]
          · rw [List.length_reverse, List.length_reverse, ← rv.length, hl, hn]
          · exact (RepDs.mono x1.stab R1.tup _ _ rv).reverse
        · exact q.elim
/-- e.f where e is caught -/
def cXf (i : Nat) (m : Nat → Option Nat) : EF := fun env => match (env[i]? : Option (Option Cell)) with
  | some (some (.exc x)) => match m x.cls with
    | some j => match x.fs[j]? with
      | some d => some (.ok (.dat d) env)
      | none => none
    | none => none
  | _ => none
theorem zip_lookup {α : Type} {f : Str} : ∀ {ns : List Str} {vs : List α} {j : Nat} {v : α}, ns.Nodup → ns[j]? = some f → vs[j]? = some v → (ns.zip vs).lookup f = some v
  | [], _, j, _, _, h, _ => by simp at h
  | n :: ns, [], j, _, _, _, h => by simp at h
  | n :: ns, w :: vs, 0, v, nd, h1, h2 => by
    have h1 : n = f := by simpa using h1
    have h2 : w = v := by simpa using h2
    subst h1 h2
    simp [List.lookup]
  | n :: ns, w :: vs, j + 1, v, nd, h1, h2 => by
    rw [List.nodup_cons] at nd
    have h1 : ns[j]? = some f := by simpa using h1
    have h2 : vs[j]? = some v := by simpa using h2
    have ne : (f == n) = false := by
      have : f ≠ n := fun z => nd.1 (z ▸ List.mem_of_getElem? h1)
      simpa using this
    simp only [List.zip_cons_cons, List.lookup, ne]
    exact zip_lookup nd.2 h1 h2
theorem ev_xf {a : Addr} {oe : Obj} {cls : Value} {d : Option Addr} {pn : List (Addr × Obj)} {e : Expr} {pos : Pos} {f : Str} {i : Nat} {m : Nat → Option Nat} (hk : X.K = G.K) (hz : Zc cls d oe) (hf : ∃ vs, oe.data = .fields vs)
    (hX : ∀ k j, m k = some j → ∃ C ns, G.cls k = some (C, ns) ∧ XfC G.K C ∧ PySem.W.findIn G.K (.ref C) f = some none ∧ ns.Nodup ∧ ns[j]? = some f) (he : PE (X.suite a ((a, oe) :: pn)) e (tVar i))
    (hb : attributeBase e f X.env (eval e X.env) = eval e X.env := by rfl) : PE (X.suite a ((a, oe) :: pn)) (.Attribute e f pos) (tEv (G.at (some (a, cls, d))) XRx W (cXf i m)) := by
  refine ⟨fun pins s σ H Q I h => ?_⟩
  obtain ⟨A, env, R, p⟩ := h
  unfold cXf at p
  cases hx : (env[i]? : Option (Option Cell)) with
  | none =>
    rw [hx] at p
    exact p.elim
  | some c =>
    cases c with
    | none =>
      rw [hx] at p
      exact p.elim
    | some c =>
      cases c with
      | dat _ =>
        rw [hx] at p
        exact p.elim
      | own _ =>
        rw [hx] at p
        exact p.elim
      | exc x =>
        rw [hx] at p
        dsimp only at p
        cases hm : m x.cls with
        | none =>
          rw [hm] at p
          exact p.elim
        | some j =>
          rw [hm] at p
          dsimp only at p
          cases hj : x.fs[j]? with
          | none =>
            rw [hj] at p
            exact p.elim
          | some d0 =>
            rw [hj] at p
            obtain ⟨C, ns, hc, T, hno, nd, hn⟩ := hX _ _ hm
            obtain ⟨v, e3, a', C', dd, ns', e4, e5, e6, xf⟩ := R.cell i _ hx
            have e5 : (a, cls, d) = (a', Value.ref C', dd) := Option.some.inj e5
            rw [Prod.mk.injEq, Prod.mk.injEq] at e5
            obtain ⟨rfl, rfl, rfl⟩ := e5
            have e6 : G.cls x.cls = some (C', ns') := e6
            rw [hc] at e6
            have e6 := Option.some.inj e6
            rw [Prod.mk.injEq] at e6
            obtain ⟨rfl, rfl⟩ := e6
            rcases xf with ⟨z, _⟩ | ⟨C2, ns2, q, vs, eq, nq, hc2, hq, hl, rv⟩
            · rw [z] at hj
              simp at hj
            · have hc2 : G.cls x.cls = some (C2, ns2) := hc2
              rw [hc] at hc2
              have hc2 := Option.some.inj hc2
              rw [Prod.mk.injEq] at hc2
              obtain ⟨rfl, rfl⟩ := hc2
              obtain ⟨w, hw, rw'⟩ := rv.get hj
              refine (pe_xf (by rw [hk]; exact T) (by rw [hk]; exact hno) hz hf he hb).run pins s σ H Q I ⟨v, e3, e4, rfl, q, _, w, eq, hq, zip_lookup nd hn hw, ?_⟩
              exact p A H R (Fr.refl _ _ _) w rw'
end
end Tk
/-! Tk19: x is True; xs[::-1] of lists. -/
namespace Tk
open PySem PySem.Spec PyProof.Rows L2
section
variable {G : Tb} {XR : XW} {W : WX} {X : Cx} {fx : List Nat}
def rIsB (neg : Bool) : R2 := fun x y H Q => ∃ a b, x = .bl a ∧ y = .bl b ∧ Q (.bl (neg ^^ decide (a = b))) H
def fIsB (neg : Bool) : D → D → Option RV
  | .bl a, .bl b => some (.dat (.bl (neg ^^ decide (a = b))))
  | _, _ => none
def gTpL (n : Nat) (gs : GFs) : GF := fun d env => match d with
  | .tup ds => if ds.length = n then gs ds env else none
  | .lst ds => if ds.length = n then gs ds env else none
  | _ => none
/-! xs[::-1] -/
def fRev : D → Option RV
  | .lst l => some (.fresh (.lst l.reverse))
  | _ => none
end
end Tk
/-! TkN: for k, x in enumerate(xs), xs a tuple or a list. -/
namespace TkN
open PySem
abbrev eT (h : Heap) (t : Addr) : Heap := h.push { cls := .type "tuple_iterator", data := .fields #[.ref t, .int 0 0] }
abbrev eE (h : Heap) (t : Addr) : Heap := (eT h t).push { cls := .type "enumerate", data := .fields #[.none, .bool false, .ref h.objs.size, rawInt 0, .none, .none] }
open PySem.Spec PyProof.Rows L2
/-- the tuple at a, its items with their numbers in new pairs -/
def IteT (K : PySem.W.Frag) (a : Addr) : It :=
  ⟨fun i H => ∃ (xs : List V) (x : V), SqT K H a xs ∧ xs[i]? = some x, fun i H v H' => ∃ (T : Addr) (x : V) (o : Obj), v = .ref T ∧ H T = none ∧ o.dict = none ∧ H' = upd H T (.frz o (.tup [.int (i : Nat), x])) ∧ ∀ xs, SqT K H a xs → xs[i]? = some x, fun i H => ∃ xs : List V, SqT K H a xs ∧ xs.length = i⟩
def iEnumT (K : PySem.W.Frag) (ta : TA) : TI := fun σ H R => ta σ H fun vs H1 => ∃ a xs, vs = [.ref a] ∧ SqT K H1 a xs ∧ R (IteT K a) H1
/-- the list at a, its items with their numbers in new pairs -/
def IteL (K : PySem.W.Frag) (a : Addr) : It :=
  ⟨fun i H => ∃ (xs : List V) (x : V), SqL K H a xs ∧ xs[i]? = some x, fun i H v H' => ∃ (T : Addr) (x : V) (o : Obj), v = .ref T ∧ H T = none ∧ o.dict = none ∧ H' = upd H T (.frz o (.tup [.int (i : Nat), x])) ∧ ∀ xs, SqL K H a xs → xs[i]? = some x, fun i H => ∃ xs : List V, SqL K H a xs ∧ xs.length = i⟩
def iEnumL (K : PySem.W.Frag) (ta : TA) : TI := fun σ H R => ta σ H fun vs H1 => ∃ a xs, vs = [.ref a] ∧ SqL K H1 a xs ∧ R (IteL K a) H1
end TkN
namespace Tk
open PySem PySem.Spec PyProof.Rows L2
section
variable {G : Tb} {XR : XW} {W : WX} {X : Cx} {fx : List Nat}
/-- with their numbers -/
def numd (i : Nat) : List D → List D
  | [] => []
  | x :: l => .tup [.int (i : Int), x] :: numd (i + 1) l
def iEn (a : AF) : AF := fun env => bd (a env) fun ds e => match ds with
  | [.tup xs] => some (.ok (numd 0 xs) e)
  | [.lst xs] => some (.ok (numd 0 xs) e)
  | _ => none
end
end Tk
/-! TkV: t[::-1] of tuples. -/
namespace TkV
open PySem
section
variable {prog : Program} {w : World} {A : Around} {E : Value → Shared → Prop} {s : Shared}
end
open PySem.Spec PyProof.Rows L2
def tRevT (K : PySem.W.Frag) (te : TE) : TE := fun σ H Q => te σ H fun x H1 => ∃ a xs, x = .ref a ∧ SqT K H1 a xs ∧ Tk.NewT H1 Q xs.reverse
end TkV
namespace Tk
open PySem PySem.Spec PyProof.Rows L2
section
variable {G : Tb} {XR : XW} {W : WX} {X : Cx} {fx : List Nat}
def fRevT : D → Option RV
  | .tup l => some (.dat (.tup l.reverse))
  | _ => none
end
end Tk
/-! Tk20: instances: fields read, methods called, instances made anew, a field set. -/
namespace Tk
open PySem PySem.Spec PyProof.Rows L2
theorem RepT.obj {G : Tb} {A : Hid} {H : Hp} {c : Nat} {l : List D} {x : V} (h : RepT G A H (.obj c l) x) : ∃ a C dx ns vs, x = .ref a ∧ H a = some (.ins C dx (ns.zip vs)) ∧ G.cls c = some (C, ns) ∧ ns.length = vs.length ∧ RepDs G A H l vs := by
  rcases h with h | ⟨p, rfl, _, C, dx, ns, vs, e, hc, z, r⟩
  · unfold RepD at h
    obtain ⟨a, C, dx, ns, vs, e, _, q, k, z, r⟩ := h
    exact ⟨a, C, dx, ns, vs, e, q, k, z, r⟩
  · exact ⟨p, C, dx, ns, vs, rfl, e, hc, z, r⟩
section
variable {G : Tb} {XR : XW} {W : WX} {X : Cx} {fx : List Nat}
/-! ### a field -/
def fFld (m : Nat → Option Nat) : D → Option RV
  | .obj c l => match m c with
    | some j => match l[j]? with
      | some d => some (.dat d)
      | none => none
    | none => none
  | _ => none
def FldOk (G : Tb) (f : Str) (m : Nat → Option Nat) : Prop := ∀ c j, m c = some j → ∃ C ns, G.cls c = some (C, ns) ∧ Cls G.K C ∧ NoAttr G.K C f ∧ ns.Nodup ∧ ns[j]? = some f
/-! ### a method -/
def MethOk (G : Tb) (mn : Str) (f : Addr) (tab : Nat → Bool) : Prop := ∀ c, tab c = true → ∃ C ns, G.cls c = some (C, ns) ∧ Cls G.K C ∧ Meth G.K C mn f ∧ mn ∉ ns
def cMe (tab : Nat → Bool) (n np m : Nat) (Φ : List D → Option RR) (pm : List Nat) (dd : List D) (o : EF) (a kw : AF) : EF := fun env => bd (cUse o env) fun d e => match d with
  | .obj c l => if tab c = true then bd (a e) fun ds e1 => bd (kw e1) fun zs e2 =>
      if ds.length + 1 = np ∧ zs.length = m ∧ (pick pm (.obj c l :: ds ++ zs ++ dd)).length = n then callK (Φ (pick pm (.obj c l :: ds ++ zs ++ dd))) e2 else none
    else none
  | _ => none
section
variable {k n np m : Nat} {f : Addr} {fd : FuncData} {ps ks : List Str} {sp : Sp} {Φ : List D → Option RR} {mn : Str} {p pos apos : Pos} {o e : Expr} {es : List Expr} {kws : List Keyword} {ta : TE} {t tk : TA} {pm : List Nat} {dv : List Value} {dvs : List V} {dd : List D} {pl : Sem Bool}
/-- what is read of a method call -/
def tMeG (K : PySem.W.Frag) (mn : Str) (f : Addr) (sp : Sp) (np m : Nat) (pm : List Nat) (dvs : List V) (W : WX) (ta : TE) (t tk : TA) : TE := fun σ H Q => ta σ H fun x H1 => ∃ a C dx fs, x = .ref a ∧ H1 a = some (.ins C dx fs) ∧ Cls K C ∧ Meth K C mn f ∧ fs.lookup mn = none ∧
  t σ H1 fun vs H2 => tk σ H2 fun zs H3 => vs.length + 1 = np ∧ zs.length = m ∧ sp (pick pm (x :: vs ++ zs ++ dvs)) H3 Q fun c d H' => W c d σ H'
end
end
end Tk
/-! Tk21: instances made anew; a field set. -/
namespace Tk
open PySem PySem.Spec PyProof.Rows L2
section
variable {G : Tb} {XR : XW} {W : WX} {X : Cx} {fx : List Nat}
variable {k n np m : Nat} {f C : Addr} {fd : FuncData} {ps ks : List Str} {sp : Sp} {Φ : D → List D → Option RM} {x : Str} {p pos apos : Pos} {o e : Expr} {es : List Expr} {kws : List Keyword} {ta : TE} {t tk : TA} {pm : List Nat} {dv : List Value} {dvs : List V} {dd : List D}
def tMkG (C : Addr) (sp : Sp) (np m : Nat) (pm : List Nat) (dvs : List V) (W : WX) (t tk : TA) : TE := fun σ H Q => t σ H fun vs H1 => tk σ H1 fun zs H2 => vs.length = np ∧ zs.length = m ∧
  ∀ x dx, H2 x = none → H2 dx = none → dx ≠ x → sp (.ref x :: pick pm (vs ++ zs ++ dvs)) (upd (upd H2 dx (.own x)) x (.ins C dx [])) (fun v H3 => v = .non ∧ Q (.ref x) H3) (fun c d H' => W c d σ H')
def makeK (r : Option RM) (e : Env) : Option (Rs Out) := match r with
  | some (.ok (.dat .non) d) => some (.ok (.fresh d) e)
  | some (.ex x _) => some (.ex x e)
  | _ => none
def cMake (c0 n np m : Nat) (Φ : D → List D → Option RM) (pm : List Nat) (dd : List D) (a kw : AF) : EF := fun env => bd (a env) fun ds e => bd (kw e) fun zs e2 =>
  if ds.length = np ∧ zs.length = m ∧ (pick pm (ds ++ zs ++ dd)).length + 1 = n then makeK (Φ (.obj c0 []) (pick pm (ds ++ zs ++ dd))) e2 else none
end
section
variable {G : Tb} {XR : XW} {W : WX} {X : Cx} {fx : List Nat} {k n np m : Nat} {f C : Addr} {fd : FuncData} {ps ks : List Str} {Φ : List D → Option RR} {mn : Str} {p pos apos : Pos} {o e : Expr} {es : List Expr} {kws : List Keyword} {pm : List Nat} {dv : List Value} {dvs : List V} {dd : List D} {pl : Sem Bool} {tab : Nat → Bool} {g : EF} {a kw : AF}
end
section
variable {G : Tb} {XR : XW} {W : WX} {X : Cx} {fx : List Nat}
/-! ### a field set -/
def putO (m : Nat → Option (Nat × Nat)) (d : D) : D → Option D
  | .obj c l => match m c with
    | some (j, c') => if j < l.length then (if c' = c then some (.obj c (l.set j d)) else none) else if j = l.length then some (.obj c' (l ++ [d])) else none
    | none => none
  | _ => none
def FSetOk (G : Tb) (f : Str) (m : Nat → Option (Nat × Nat)) : Prop := ∀ c j c', m c = some (j, c') → ∃ C ns, G.cls c = some (C, ns) ∧ Cls G.K C ∧ NoAttr G.K C f ∧ ns.Nodup ∧ ns.length < 900 ∧ ((ns[j]? = some f ∧ c' = c) ∨ (j = ns.length ∧ f ∉ ns ∧ G.cls c' = some (C, ns ++ [f])))
def sFldSet (i : Nat) (m : Nat → Option (Nat × Nat)) (f : EF) : SF := fun env => bd (cUse f env) fun d e => match ownAt e i with
  | some o => match putO m d o with
    | some o' => some (.ok .next (e.set i (some (.own o'))))
    | none => none
  | none => none
theorem ExtBut.ins {A : Hid} {H : Hp} {p : Addr} (t : TupOk A H) (a : A p) (C dx : Addr) (fs : List (Str × V)) : ExtBut p A H A (upd H p (.ins C dx fs)) := by
  refine ⟨fun b o e n => ⟨by rw [upd_ne n]; exact e, Iff.rfl⟩, fun q hq => ?_, a⟩
  by_cases h : q = p
  · subst h
    exact ⟨_, upd_same .., (fun _ z => by cases z), fun _ _ z => by cases z⟩
  · obtain ⟨o, h1, h2, h3⟩ := t q hq
    exact ⟨o, by rw [upd_ne h]; exact h1, h2, h3⟩
end
end Tk
/-! Tk22: defs with defaults, methods as defs, isinstance with an own class, == by an own __eq__. -/
namespace Tk
open PySem PySem.Spec PyProof.Rows L2
/-- a def as it stands behind the top, its defaults open -/
structure FunX (K : PySem.W.Frag) (x qual : Str) (st : Stmt) (f : Addr) (fd : FuncData) : Prop where
  ex : ∃ (oc : Value) (od : Option Addr) (dV kV doc pm : Value) (an : Option Addr) (cdv ct : Value) (osl : Array (Option Value)),
    fd = PySem.W.fnOf x qual (defArgs st) (defBody st) (defScope st) dV kV doc pm an cdv ct ∧ K.lookup f = some ⟨oc, od, .func fd, osl⟩ ∧ PySem.W.codeIn K cdv qual = true
section
variable {P : Program} {w : World} {K : PySem.W.Frag} {mg : Str → Option Value} {base : Heap}
variable {G : Tb} {XR : XW}
/-- a method -/
structure FnM (P : Program) (w : World) (K : PySem.W.Frag) (mg : Str → Option Value) (base : Heap) (C : Addr) (nm : Str) (k : Nat) (ps : List Str) (sp : Sp) (f : Addr) (fd : FuncData) : Prop where
  fn : FnG P w K mg base k f fd ps sp
  me : Meth K C nm f
/-- an __init__ -/
structure FnC (P : Program) (w : World) (K : PySem.W.Frag) (mg : Str → Option Value) (base : Heap) (C : Addr) (k : Nat) (ps : List Str) (sp : Sp) (f : Addr) (fd : FuncData) : Prop where
  fn : FnG P w K mg base k f fd ps sp
  mkc : Mk K C f
end
section
variable {G : Tb} {XR : XW} {W : WX} {X : Cx}
/-! ### isinstance with an own class -/
def fIsC (m : Nat → Option Bool) (d : D) : Option RV := match d with
  | .obj c _ => match m c with
    | some b => some (.dat (.bl b))
    | none => none
  | d => match tyName d with
    | some _ => some (.dat (.bl false))
    | none => none
structure IsCOk (G : Tb) (C : Addr) (m : Nat → Option Bool) : Prop where
  blt : ∀ d a, tyName d = some a → PySem.W.kitOne G.K (.type a) (.ref C) = some false
  own : ∀ c b, m c = some b → ∃ C' ns, G.cls c = some (C', ns) ∧ (∀ (H : Hp) a dx fs, H a = some (.ins C' dx fs) → TyX G.K H (.ref a) (.ref C')) ∧ PySem.W.kitOne G.K (.ref C') (.ref C) = some b
end
end Tk
/-! Tk23: == and != by an own __eq__. -/
namespace Tk
open PySem PySem.Spec PyProof.Rows L2
section
variable {M : Model} {prog : Program} {w : World} {A : Around} {E : Value → Shared → Prop} {s : Shared} {K : PySem.W.Frag} {x C f : Addr} {ox : Obj} {od : Option Obj}
end
section
variable {G : Tb} {XR : XW} {W : WX} {X : Cx} {k : Nat} {f C : Addr} {fd : FuncData} {ps : List Str} {sp : Sp}
/-- what is asked of a comparison by the own __eq__ -/
def rOwn (K : PySem.W.Frag) (C : Addr) (sp : Sp) (neg : Bool) : R2 := fun x y H Q => ∃ a dx fs t, x = .ref a ∧ H a = some (.ins C dx fs) ∧ TyX K H y t ∧ PySem.W.notFirst K C t = true ∧ sp [x, y] H (fun v H' => ∃ b, v = .bl b ∧ Q (.bl (neg ^^ b)) H') fun _ _ _ => False
/-! ### as an operation of data -/
def okR (m : Nat → Option Bool) (e : D) : Bool := match e with
  | .obj c _ => (m c).isSome
  | e => (tyName e).isSome
def fEqO (tab : Nat → Bool) (m : Nat → Option Bool) (Φ : List D → Option RR) (neg : Bool) (d e : D) : Option RV := match d with
  | .obj c l => if tab c = true ∧ okR m e = true then (match Φ [.obj c l, e] with
      | some (.ok (.dat (.bl b))) => some (.dat (.bl (neg ^^ b)))
      | _ => none) else none
  | d => eqF neg d e
/-- what must be known of the classes -/
structure EqOk (G : Tb) (C : Addr) (tab : Nat → Bool) (m : Nat → Option Bool) : Prop where
  own : ∀ c, tab c = true → ∃ ns, G.cls c = some (C, ns)
  is : IsCOk G C m
  blt : ∀ d a, tyName d = some a → PySem.W.notFirst G.K C (.type a) = true
  ins : ∀ c b, m c = some b → ∃ C' ns, G.cls c = some (C', ns) ∧ PySem.W.notFirst G.K C (.ref C') = true
/-- let go of what two values hold -/
theorem RepT.free {A A' : Hid} {H : Hp} {d : D} {x : V} (t : TupOk A H) (h : RepT G A H d x) (hA : ∀ a, A' a → A a) (hx : ∀ p, x = .ref p → ¬ A' p) : RepD G A' H d x := by
  rcases h with h | ⟨p, rfl, _, h⟩
  · exact RepD.mono (sub_stab hA) t _ _ h
  · exact (h.mono (sub_stab hA) t fun _ e => e).dat (hx p rfl)
end
end Tk
/-! Tk24: lists and tuples so many times. -/
namespace Tk
open PySem PySem.Spec PyProof.Rows L2
def rTup01 (K : PySem.W.Frag) : R2 := fun x y H Q => ∃ l k xs, x = .ref l ∧ y = .int k ∧ SqT K H l xs ∧ xs ≠ [] ∧ ((k = 1 ∧ Q (.ref l) H) ∨ (k = 0 ∧ NewT H Q []))
section
variable {G : Tb} {X : Cx}
/-- t * k, k two or more -/
def rRepF (K : PySem.W.Frag) : R2 := fun x y H Q => ∃ l k xs, x = .ref l ∧ y = .int k ∧ SqT K H l xs ∧ xs ≠ [] ∧ 2 ≤ k ∧ k ≤ 1000 ∧ xs.length ≤ 1000 ∧ NewT H Q (List.replicate k.toNat xs).flatten
def repL (l : List D) (k : Int) : List D := (List.replicate k.toNat l).flatten
def fMulS (d e : D) : Option RV := match d, e with
  | .int i, .int j => fMul (.int i) (.int j)
  | .lst l, .int k => if -1000 ≤ k ∧ k ≤ 1000 ∧ l.length ≤ 1000 then some (.fresh (.lst (repL l k))) else none
  | .tup l, .int k => if l = [] then none else if k = 0 then some (.dat (.tup [])) else if k = 1 then some (.dat (.tup l)) else if 2 ≤ k ∧ k ≤ 1000 ∧ l.length ≤ 1000 then some (.dat (.tup (repL l k))) else none
  | _, _ => none
theorem RepDs.rep {A : Hid} {H : Hp} {ds : List D} {vs : List V} (h : RepDs G A H ds vs) : ∀ n : Nat, RepDs G A H (List.replicate n ds).flatten (List.replicate n vs).flatten
  | 0 => .nil
  | n + 1 => by
    rw [List.replicate_succ, List.replicate_succ, List.flatten_cons, List.flatten_cons]
    exact h.append (h.rep n)
def rMulAll (K : PySem.W.Frag) : R2 := fun x y H Q => rI CMulW (fun i j => .int (i * j)) x y H Q ∨ rRep x y H Q ∨ rTup01 K x y H Q ∨ rRepF K x y H Q
end
end Tk
/-! Tk25: in, of tuples that hold data of any depth. -/
namespace Tk
open PySem PySem.Spec PyProof.Rows L2
section
variable {G : Tb} {XR : XW} {W : WX} {X : Cx} {fx : List Nat}
def rInTD (K : PySem.W.Frag) : R2 := fun x y H Q => ∃ d ds, Dp K H x d ∧ Dp K H y (.tuple ds) ∧ SeqAt.shaped d = true ∧ SeqAt.shaped (.tuple ds) = true ∧ Q (.bl (ds.any fun z => PyData.eqv z d)) H
def rNotInTD (K : PySem.W.Frag) : R2 := fun x y H Q => ∃ d ds, Dp K H x d ∧ Dp K H y (.tuple ds) ∧ SeqAt.shaped d = true ∧ SeqAt.shaped (.tuple ds) = true ∧ Q (.bl (!ds.any fun z => PyData.eqv z d)) H
def fInTD (neg : Bool) (d e : D) : Option RV := match toPy d, toPy e with
  | some p, some (.tuple ps) => if SeqAt.shaped p = true ∧ SeqAt.shaped (.tuple ps) = true then some (.dat (.bl (neg ^^ ps.any fun z => PyData.eqv z p))) else none
  | _, _ => none
def fInA (neg : Bool) (d e : D) : Option RV := orE (fIn neg d e) (fInTD neg d e)
def rInAA (K : PySem.W.Frag) : R2 := fun x y H Q => rInAll K x y H Q ∨ rInTD K x y H Q
def rNotInAA (K : PySem.W.Frag) : R2 := fun x y H Q => rNotInAll K x y H Q ∨ rNotInTD K x y H Q
end
end Tk
/-! Tk26: a dict display of one text and one int, both written. -/
namespace Tk
open PySem PySem.Spec PyProof.Rows L2
section
variable {G : Tb} {XR : XW} {W : WX} {X : Cx} {fx : List Nat}
def cDct1 (k : Str) (i : Int) : EF := fun env => some (.ok (.fresh (.dct [.inr k] [.int i])) env)
/-! ### c.join(xs), c written -/
def strD : D → Option Str
  | .str x => some x
  | _ => none
def strsD : List D → Option (List Str)
  | [] => some []
  | d :: l => match strD d, strsD l with
    | some x, some xs => some (x :: xs)
    | _, _ => none
def fJoinC (c : Str) (d : D) : Option RV := match partsD d with
  | some l => match strsD l with
    | some ys => if (ys.map (·.length)).sum + ys.length * c.length ≤ 16777216 then some (.dat (.str (Txt.join c ys))) else none
    | none => none
  | none => none
end
end Tk
/-! TkR: small facts for mirrors: sizes, ==, repr. -/
namespace Tk
open PySem

theorem mulOk_of {i j : Int} (h1 : i.natAbs < 2 ^ 2000) (h2 : j.natAbs < 2 ^ 2000) : mulOk i j = true := by
  unfold mulOk
  have e : (2 : Nat) ^ 2000 ≤ 2 ^ 4000 := Nat.pow_le_pow_right (by decide) (by decide)
  rw [decide_eq_true (Nat.lt_of_lt_of_le h1 e), decide_eq_true (Nat.lt_of_lt_of_le h2 e)]
  rfl
theorem divOk_of {i j : Int} (h0 : 0 < j) (h1 : j.natAbs < 2 ^ 2000) : divOk i j = true := by
  unfold divOk
  have e : (2 : Nat) ^ 2000 ≤ 2 ^ 4000 := Nat.pow_le_pow_right (by decide) (by decide)
  rw [decide_eq_true h0, decide_eq_true (Nat.lt_of_lt_of_le h1 e)]
  rfl
/-- a number that lies between 0 and a written one is small enough -/
theorem sm {i : Int} {m : Nat} (h0 : 0 ≤ i) (h1 : i ≤ m) (hm : m < 2 ^ 2000 := by decide +kernel) : i.natAbs < 2 ^ 2000 := by
  have : i.natAbs ≤ m := by omega
  exact Nat.lt_of_le_of_lt this hm
theorem powOk_lit {i j : Int} (h1 : 0 ≤ j) (h2 : j ≤ 1000) (h3 : i.natAbs < 1000) : powOk i j = true := by
  unfold powOk
  rw [decide_eq_true h1, decide_eq_true h2, decide_eq_true h3]
  rfl
theorem fuel_of {n : Nat} (h : n < 2 ^ 2000) : n < fuelN := by
  unfold fuelN
  exact Nat.lt_of_lt_of_le h (Nat.pow_le_pow_right (by decide) (by decide))
/-! == -/
/-- a text that may be compared and shown -/
def StrOk (x : Str) : Prop := PyData.strOk x = true ∧ (x.cps.toList.all fun c => decide (c < 16 ^ 8)) = true ∧ x.cps.size ≤ 20
theorem StrOk.ltr {c : Nat} (h : c < 128) : StrOk ⟨#[c]⟩ := by
  refine ⟨?_, ?_, ?_⟩
  · simp [PyData.strOk]
    omega
  · simp
    omega
  · simp
theorem shaped_int (i : Int) : SeqAt.shaped (.int i) = true := by simp [SeqAt.shaped, PyData.canLay0, PyData.depth]
theorem eqF_int (n : Bool) (i j : Int) : eqF n (.int i) (.int j) = some (.dat (.bl (n ^^ decide (i = j)))) := by
  simp [eqF, twoS, eqP, toPy, shaped_int, PyData.eqv]
  by_cases h : i = j <;> simp [h]
theorem eqF_strs (n : Bool) (x y : Str) : eqF n (.str x) (.str y) = some (.dat (.bl (n ^^ decide (x = y)))) := rfl
theorem eqF_of {n : Bool} {d e : D} {p q : PyData} (h1 : toPy d = some p) (h2 : toPy e = some q) (h3 : SeqAt.shaped p = true) (h4 : SeqAt.shaped q = true) : eqF n d e = some (.dat (.bl (n ^^ PyData.eqv p q))) := by
  unfold eqF
  split
  · rename_i sx sy hs
    obtain ⟨rfl, rfl⟩ := twoS_of hs
    cases show some (PyData.str sx) = some p by rw [← h1]; unfold toPy; rfl
    cases show some (PyData.str sy) = some q by rw [← h2]; unfold toPy; rfl
    rw [show PyData.eqv (.str sx) (.str sy) = decide (sx = sy) from by rw [Bool.eq_iff_iff]; simp [PyData.eqv]]
  · unfold eqP
    rw [h1, h2]
    exact if_pos ⟨h3, h4⟩

/-! repr -/
structure RpOk (B : Nat) (p : PyData) : Prop where
  s : PyData.showable p = true
  h : SeqAt.shaped p = true
  l : PyData.leavesShort B p = true
  d : PyData.hasDict p = false
  z : (B + 2) * p.bulk + B ≤ 1000000
theorem fRepr_of {B : Nat} {d : D} {p : PyData} (hB : 8 ≤ B) (h : toPy d = some p) (o : RpOk B p) : fRepr d = some (.dat (.str p.shown)) := by
  have hs := PyData.shown_le_bulk B hB p o.l
  have hz := o.z
  have z : szOk p.shown.length = true := decide_eq_true (by omega)
  unfold fRepr
  rw [h]
  exact if_pos ⟨o.s, o.h, z, o.d⟩
theorem int_short {i : Int} {k : Nat} (hk : 0 < k) (h : i.natAbs < 10 ^ k) : (PyData.shown (.int i)).length ≤ k + 1 := by
  have e := int_text_length_le10 hk h
  show (Str.ofString (toString i)).length ≤ k + 1
  rw [ofString_length]
  exact e
theorem int_show {i : Int} (h : i.natAbs < 2 ^ 1920) : PyData.showable (.int i) = true := decide_eq_true (log2_lt_pow (by decide) h)

end Tk
/-! TkD: repr of data in which empty dicts may lie. -/
namespace Tk
open PySem PySem.Spec PyProof.Rows L2
mutual
def toPyD : D → Option PyData
  | .non => some .none
  | .bl b => some (.bool b)
  | .int i => some (.int i)
  | .str x => some (.str x)
  | .tup l => (toPysD l).map .tuple
  | .lst l => (toPysD l).map .list
  | .dct [] [] => some (.dict [])
  | .dct [.inr k] [.int i] => some (.dict [(.str k, .int i)])
  | _ => none
def toPysD : List D → Option (List PyData)
  | [] => some []
  | d :: ds => match toPyD d, toPysD ds with
    | some p, some ps => some (p :: ps)
    | _, _ => none
end
theorem toPyD_dct {ks : List Key} {l : List D} {p : PyData} (e : toPyD (.dct ks l) = some p) : (ks = [] ∧ l = [] ∧ p = .dict []) ∨ ∃ k i, ks = [.inr k] ∧ l = [.int i] ∧ p = .dict [(.str k, .int i)] := by
  unfold toPyD at e
  split at e
  all_goals first
    | (rename_i heq; cases heq; done)
    | (rename_i heq; cases heq; cases e; exact .inl ⟨rfl, rfl, rfl⟩)
    | (rename_i heq; cases heq; cases e; exact .inr ⟨_, _, rfl, rfl, rfl⟩)
    | cases e
mutual
inductive DpD (K : PySem.W.Frag) (H : Hp) : V → PyData → Prop
  | non : DpD K H .non .none
  | bl (b : Bool) : DpD K H (.bl b) (.bool b)
  | int (i : Int) : DpD K H (.int i) (.int i)
  | str (x : Str) : DpD K H (.str x) (.str x)
  | lst {a : Addr} {xs : List V} {ds : List PyData} : H a = some (.lst xs) → DpDs K H xs ds → DpD K H (.ref a) (.list ds)
  | tup {a : Addr} {xs : List V} {ds : List PyData} : SqT K H a xs → DpDs K H xs ds → DpD K H (.ref a) (.tuple ds)
  | dct {a : Addr} : Rd H a (.dK []) → DpD K H (.ref a) (.dict [])
  | dct1 {a : Addr} {k : Str} {i : Int} : Rd H a (.dK [(.inr k, .int i)]) → DpD K H (.ref a) (.dict [(.str k, .int i)])
inductive DpDs (K : PySem.W.Frag) (H : Hp) : List V → List PyData → Prop
  | nil : DpDs K H [] []
  | cons {v : V} {vs : List V} {d : PyData} {ds : List PyData} : DpD K H v d → DpDs K H vs ds → DpDs K H (v :: vs) (d :: ds)
end
/-! how data lies in a heap: dicts are empty, and none is the modules' one -/
mutual
inductive RdE (h : Heap) : Value → PyData → Prop
  | none : RdE h .none .none
  | bool (b : Bool) : RdE h (.bool b) (.bool b)
  | int (i : Int) (t : Tok) : RdE h (.int i t) (.int i)
  | str (x : Str) (t : Tok) : RdE h (.str x t) (.str x)
  | list {a : Addr} {o : Obj} {vs : List Value} {n : Nat} {ds : List PyData} : h.get? a = some o → o.cls = .type "list" → o.data = .seq vs.toArray n → RdEs h vs ds → RdE h (.ref a) (.list ds)
  | tuple {a : Addr} {o : Obj} {vs : List Value} {n : Nat} {ds : List PyData} : h.get? a = some o → o.cls = .type "tuple" → o.data = .seq vs.toArray n → RdEs h vs ds → RdE h (.ref a) (.tuple ds)
  | dict {a : Addr} {o : Obj} {es : Array DictEntry} {n : Nat} : h.get? a = some o → o.cls = .type "dict" → o.data = .dict es n → es.toList = [] → (a == sysModules) = false → RdE h (.ref a) (.dict [])
  | dict1 {a : Addr} {o : Obj} {es : Array DictEntry} {n : Nat} {e : DictEntry} {k : Str} {t t' : Tok} {i : Int} : h.get? a = some o → o.cls = .type "dict" → o.data = .dict es n → es.toList = [e] → e.key = .str k t → e.val = .int i t' → (a == sysModules) = false → RdE h (.ref a) (.dict [(.str k, .int i)])
inductive RdEs (h : Heap) : List Value → List PyData → Prop
  | nil : RdEs h [] []
  | cons {v : Value} {vs : List Value} {d : PyData} {ds : List PyData} : RdE h v d → RdEs h vs ds → RdEs h (v :: vs) (d :: ds)
end
theorem key_short {k : Str} {i : Int} (z : (PyData.shown (.dict [(.str k, .int i)])).length ≤ sizeLine) : (reprText k).length ≤ sizeLine := by
  rw [PyData.shown_dict, PyData.shownKv_cons, PyData.shownKv_nil, PyData.shown_str] at z
  have e : Str.join ", " [reprText k ++ ": " ++ (PyData.int i).shown] = reprText k ++ ": " ++ (PyData.int i).shown := rfl
  rw [e] at z
  simp only [Str.length_append] at z
  omega
section
variable {prog : Program} {w : World} {h₀ : Heap}
mutual
theorem RdE.plain : ∀ {v : Value} {d : PyData}, RdE h₀ v d → ∃ as, Reads h₀ v d as
  | _, _, .none => ⟨_, .none⟩
  | _, _, .bool b => ⟨_, .bool b⟩
  | _, _, .int i t => ⟨_, .int i t⟩
  | _, _, .str x t => ⟨_, .str x t⟩
  | _, _, .list e1 e2 e3 r => let ⟨_, q⟩ := r.plains; ⟨_, Reads.list e1 e2 e3 (by simpa using q)⟩
  | _, _, .tuple e1 e2 e3 r => let ⟨_, q⟩ := r.plains; ⟨_, Reads.tuple e1 e2 e3 (by simpa using q)⟩
  | _, _, .dict e1 e2 e3 e4 _ => ⟨_, Reads.dict (kvs := []) e1 e2 e3 (by rw [e4]; exact .nil) (by rw [e4]; exact .nil)⟩
  | _, _, .dict1 (k := k) (t := t) (t' := t') (i := i) e1 e2 e3 e4 e5 e6 _ => ⟨_, Reads.dict (kvs := [(.str k, .int i)]) e1 e2 e3 (by rw [e4]; simp only [List.map_cons, List.map_nil, e5]; exact .cons (.str k t) .nil) (by rw [e4]; simp only [List.map_cons, List.map_nil, e6]; exact .cons (.int i t') .nil)⟩
theorem RdEs.plains : ∀ {vs : List Value} {ds : List PyData}, RdEs h₀ vs ds → ∃ as, ReadsAll h₀ vs ds as
  | _, _, .nil => ⟨_, .nil⟩
  | _, _, .cons r q => let ⟨_, x⟩ := r.plain; let ⟨_, y⟩ := q.plains; ⟨_, .cons x y⟩
end
mutual
theorem RdE.shows : ∀ {v : Value} {d : PyData}, RdE h₀ v d → PyData.showable d = true → (PyData.shown d).length ≤ sizeLine → ∃ bs, ReadAtMost h₀ (PyData.depth d) bs ∧ ReprK prog w bs h₀ (PyData.depth d) v (PyData.shown d)
  | _, _, .none, _, _ => ⟨[], nofun, by simp only [PyData.shown]; exact .of_is ReprIs.none _ _ _⟩
  | _, _, .bool b, _, _ => ⟨[], nofun, by simp only [PyData.shown]; exact .of_is (ReprIs.bool b) _ _ _⟩
  | _, _, .int i t, sh, _ => ⟨[], nofun, by simp only [PyData.shown]; exact .of_is (ReprIs.int t (of_decide_eq_true sh)) _ _ _⟩
  | _, _, .str x t, _, z => ⟨[], nofun, by simp only [PyData.shown] at z ⊢; exact .of_is (ReprIs.str x t z) _ _ _⟩
  | _, _, .list (a := a) (vs := vs) (ds := ds) e1 e2 e3 q, sh, z => by
    simp only [PyData.shown] at z
    simp only [PyData.showable] at sh
    obtain ⟨bs, rm, rk⟩ := q.showsAll sh fun t ht => Nat.le_trans (listText_mem_le ht) z
    obtain ⟨_, pl⟩ := (RdE.list e1 e2 e3 q).plain
    have na : a ∉ bs := not_mem_of_deeper pl (Nat.lt_succ_self _) rm
    refine ⟨a :: bs, .cons pl (Nat.le_succ _) rm, ?_⟩
    simp only [PyData.depth, PyData.shown]
    match vs, q, rk, e3 with
    | [], .nil, _, e3 =>
      simp only [PyData.shownAll, listText_nil]
      exact .listEmpty e1 e2 e3
    | x :: l, q, rk, e3 => exact .list e1 e2 e3 na (by simpa using rk.length_eq) fun i y e => rk.item i y (by simpa using e)
  | _, _, .tuple (a := a) e1 e2 e3 q, sh, z => by
    simp only [PyData.shown] at z
    simp only [PyData.showable] at sh
    obtain ⟨bs, rm, rk⟩ := q.showsAll sh fun t ht => Nat.le_trans (tupleText_mem_le ht) z
    obtain ⟨_, pl⟩ := (RdE.tuple e1 e2 e3 q).plain
    have na : a ∉ bs := not_mem_of_deeper pl (Nat.lt_succ_self _) rm
    refine ⟨a :: bs, .cons pl (Nat.le_succ _) rm, ?_⟩
    simp only [PyData.depth, PyData.shown]
    exact .tuple e1 e2 e3 na (by simpa using rk)
  | _, _, .dict (a := a) (es := es) e1 e2 e3 e4 ns, _, _ => by
    obtain ⟨_, pl⟩ := (RdE.dict e1 e2 e3 e4 ns).plain
    refine ⟨[a], .cons (n := 0) pl (Nat.zero_le _) nofun, ?_⟩
    simp only [PyData.depth, PyData.shown, PyData.shownKv, PyData.depthKv]
    exact .dict e1 e2 e3 ns (by simp) (by rw [e4]; exact .nil)
  | _, _, .dict1 (a := a) (es := es) (k := k) (t := t) (t' := t') (i := i) e1 e2 e3 e4 e5 e6 ns, sh, z => by
    obtain ⟨_, pl⟩ := (RdE.dict1 e1 e2 e3 e4 e5 e6 ns).plain
    refine ⟨[a], .cons (n := 0) pl (Nat.zero_le _) nofun, ?_⟩
    have zk := key_short z
    simp only [PyData.showable, PyData.showableKv, Bool.and_eq_true] at sh
    simp only [PyData.depth, PyData.shown, PyData.shownKv, PyData.depthKv]
    refine .dict e1 e2 e3 ns (by simp) ?_
    rw [e4]
    refine .cons ?_ ?_ .nil
    · rw [e5]
      exact .of_is (ReprIs.str k t zk) _ _ _
    · rw [e6]
      exact .of_is (ReprIs.int t' (of_decide_eq_true sh.1.2)) _ _ _
theorem RdEs.showsAll : ∀ {vs : List Value} {ds : List PyData}, RdEs h₀ vs ds → PyData.showableAll ds = true → (∀ t ∈ PyData.shownAll ds, t.length ≤ sizeLine) → ∃ bs, ReadAtMost h₀ (PyData.depthAll ds) bs ∧ ReprAllK prog w bs h₀ (PyData.depthAll ds) vs (PyData.shownAll ds)
  | _, _, .nil, _, _ => ⟨[], nofun, by simp only [PyData.shownAll]; exact .nil⟩
  | _, _, .cons r q, sh, z => by
    simp only [PyData.showableAll, Bool.and_eq_true] at sh
    simp only [PyData.shownAll, List.mem_cons, forall_eq_or_imp] at z
    obtain ⟨b1, m1, k1⟩ := r.shows sh.1 z.1
    obtain ⟨b2, m2, k2⟩ := q.showsAll sh.2 z.2
    simp only [PyData.depthAll, PyData.shownAll]
    exact ⟨b1 ++ b2, (m1.mono (Nat.le_max_left _ _)).append (m2.mono (Nat.le_max_right _ _)), .cons ((k1.more fun b hb => List.mem_append_left _ hb).level_le (Nat.le_max_left _ _)) (k2.more_le (fun b hb => List.mem_append_right _ hb) (Nat.le_max_right _ _))⟩
end
/-- repr of it -/
theorem repr_rdE {A : Around} {E : Value → Shared → Prop} {s : Shared} {Q : Value → Shared → Prop} {a : Addr} {d : PyData} (r : RdE s.heap (.ref a) d) (sh : PyData.showable d = true) (z : (PyData.shown d).length ≤ sizeLine) (hg : A.guards = some []) (hu : A.units + (PyData.depth d + 1) < cLine)
    (hQ : ∀ h' u tk, (∀ b o, s.heap.get? b = some o → h'.get? b = some o) → Q (.str (PyData.shown d) u) { s with heap := h', toks := tk }) : wpAny (model prog w) A (call (.builtin "repr") [.ref a]) Q E s := by
  have hu1 : A.units + 1 < cLine := by omega
  have hu2 : A.in1.units + PyData.depth d < cLine := by
    show A.units + 1 + PyData.depth d < cLine
    omega
  have same : ∀ b o, s.heap.get? b = some o → s.heap.get? b = some o := fun _ _ e => e
  cases r with
  | @list _ o vs n ds e1 e2 e3 q =>
    simp only [PyData.shown] at z hQ
    simp only [PyData.showable] at sh
    simp only [PyData.depth] at hu2
    refine call_repr_slot hu1 ⟨o, e1, e2⟩ F.slot_list_repr.toG ?_
    match vs, q, e3 with
    | [], .nil, e3 =>
      simp only [PyData.shownAll, listText_nil] at hQ
      exact call_list_repr_empty ⟨o, e1, e2⟩ e1 e3 ⟨_, _, rfl, hQ s.heap _ _ same⟩
    | x :: l, q, e3 =>
      obtain ⟨bs, rm, rk⟩ := q.showsAll (prog := prog) (w := w) sh fun t ht => Nat.le_trans (listText_mem_le ht) z
      obtain ⟨_, pl⟩ := (RdE.list e1 e2 e3 q).plain
      exact call_list_reprK e1 e2 e3 (not_mem_of_deeper pl (Nat.lt_succ_self _) rm) (by simpa using rk.length_eq) (fun i y e => rk.item i y (by simpa using e)) hg (fun b _ => Clear.nil b) hu2 same (fun h' u tk hk => ⟨_, _, rfl, hQ h' u tk hk⟩) z
  | @tuple _ o vs n ds e1 e2 e3 q =>
    simp only [PyData.shown] at z hQ
    simp only [PyData.showable] at sh
    simp only [PyData.depth] at hu2
    obtain ⟨bs, rm, rk⟩ := q.showsAll (prog := prog) (w := w) sh fun t ht => Nat.le_trans (tupleText_mem_le ht) z
    obtain ⟨_, pl⟩ := (RdE.tuple e1 e2 e3 q).plain
    exact call_repr_slot hu1 ⟨o, e1, e2⟩ F.slot_tuple_repr (call_tuple_reprK e1 e2 e3 (not_mem_of_deeper pl (Nat.lt_succ_self _) rm) (by simpa using rk) hg (fun b _ => Clear.nil b) hu2 same (fun h' u tk hk => ⟨_, _, rfl, hQ h' u tk hk⟩) z)
  | @dict _ o es n e1 e2 e3 e4 ns =>
    simp only [PyData.shown, PyData.shownKv] at z hQ
    simp only [PyData.depth, PyData.depthKv] at hu2
    exact call_repr_slot hu1 ⟨o, e1, e2⟩ F.slot_dict_repr (call_dict_reprK (as := []) e1 e2 e3 ns (by simp) (by rw [e4]; exact .nil) hg (fun b _ => Clear.nil b) hu2 same (fun h' u tk hk => ⟨_, _, rfl, hQ h' u tk hk⟩) z)
  | @dict1 _ o es n e k t t' i e1 e2 e3 e4 e5 e6 ns =>
    have zk := key_short z
    simp only [PyData.showable, PyData.showableKv, Bool.and_eq_true] at sh
    simp only [PyData.shown, PyData.shownKv] at z hQ
    simp only [PyData.depth, PyData.depthKv] at hu2
    refine call_repr_slot hu1 ⟨o, e1, e2⟩ F.slot_dict_repr (call_dict_reprK (as := []) e1 e2 e3 ns (by simp) ?_ hg (fun b _ => Clear.nil b) hu2 same (fun h' u tk hk => ⟨_, _, rfl, hQ h' u tk hk⟩) z)
    rw [e4]
    refine .cons ?_ ?_ .nil
    · rw [e5]
      exact .of_is (ReprIs.str k t zk) _ _ _
    · rw [e6]
      exact .of_is (ReprIs.int t' (of_decide_eq_true sh.1.2)) _ _ _
end
section
variable {X : Cx} {pins : List (Addr × Obj)} {σ : L2.St} {H : Hp} {s : Shared}
mutual
theorem DpD.reads (I : Inv X pins σ H s) : ∀ (d : PyData) (v : V) (u : Value), DpD X.K H v d → RelV v u → RdE s.heap u d
  | .none, _, _, h, r => by
    cases h
    cases r
    exact .none
  | .bool b, _, _, h, r => by
    cases h
    cases r
    exact .bool b
  | .int i, _, _, h, r => by
    cases h
    obtain ⟨t, rfl⟩ := r
    exact .int i t
  | .str x, _, _, h, r => by
    cases h
    obtain ⟨t, rfl⟩ := r
    exact .str x t
  | .list ds, _, _, h, r => by
    cases h with
    | lst he ha =>
      cases r
      obtain ⟨its, rv, ⟨o, n, ho, hc, _, hd⟩, _⟩ := I.list (SqL.of he)
      exact .list ho hc hd (DpDs.readsAll I ds _ its ha rv)
  | .tuple ds, _, _, h, r => by
    cases h with
    | tup he ha =>
      cases r
      obtain ⟨its, rv, ⟨o, ho, hc, n, hd⟩, _⟩ := I.tuple he
      exact .tuple ho hc hd (DpDs.readsAll I ds _ its ha rv)
  | .dict ks, _, _, h, r => by
    cases h with
    | dct he =>
      cases r
      obtain ⟨_, hsm, vs, kv, o, es, ep, ho, hx, hd, _, hp, _⟩ := dk_rd I.hok he
      have hv : vs = [] := by cases kv; rfl
      subst hv
      have he : es.toList = [] := by
        generalize es.toList = l at hp
        cases hp
        rfl
      exact .dict ho hx.1 hd he hsm
    | dct1 he =>
      cases r
      obtain ⟨_, hsm, vs, kv, o, es, ep, ho, hx, hd, _, hp, _⟩ := dk_rd I.hok he
      cases kv with
      | @cons p q ps qs p1 p2 =>
        cases p2
        obtain ⟨q1, q2⟩ := q
        obtain ⟨h1, h2⟩ := p1
        simp only at h1 h2
        obtain ⟨t', rfl⟩ := h2
        subst h1
        generalize hl : es.toList = l at hp
        cases hp with
        | cons k1 k2 k3 =>
          cases k3
          simp only [mixKind] at k1 k2
          rcases L2.keyIs_shape k1 with ⟨i, t, z, _⟩ | ⟨x, t, z, e⟩
          · cases z
          · cases z
            exact .dict1 ho hx.1 hd hl e k2 hsm
theorem DpDs.readsAll (I : Inv X pins σ H s) : ∀ (ds : List PyData) (vs : List V) (us : List Value), DpDs X.K H vs ds → Vals vs us → RdEs s.heap us ds
  | [], _, _, h, r => by
    cases h
    cases r
    exact .nil
  | d :: ds, _, _, h, r => by
    cases h with
    | cons h1 h2 =>
      cases r with
      | cons r1 r2 => exact .cons (DpD.reads I d _ _ h1 r1) (DpDs.readsAll I ds _ _ h2 r2)
end
end
section
variable {G : Tb} {X : Cx}
mutual
theorem dpD_of {A : Hid} {H : Hp} : ∀ (d : D) (p : PyData) (v : V), toPyD d = some p → RepD G A H d v → DpD G.K H v p
  | .non, _, _, e, h => by
    unfold toPyD at e
    unfold RepD at h
    cases e
    subst h
    exact .non
  | .bl _, _, _, e, h => by
    unfold toPyD at e
    unfold RepD at h
    cases e
    subst h
    exact .bl _
  | .int _, _, _, e, h => by
    unfold toPyD at e
    unfold RepD at h
    cases e
    subst h
    exact .int _
  | .str _, _, _, e, h => by
    unfold toPyD at e
    unfold RepD at h
    cases e
    subst h
    exact .str _
  | .tup l, p, _, e, h => by
    unfold toPyD at e
    unfold RepD at h
    obtain ⟨a, vs, rfl, sq, r⟩ := h
    cases hp : toPysD l with
    | none =>
      rw [hp] at e
      cases e
    | some ps =>
      rw [hp] at e
      cases e
      exact .tup sq.t (dpDs_of l ps vs hp r)
  | .lst l, p, _, e, h => by
    unfold toPyD at e
    unfold RepD at h
    obtain ⟨a, vs, rfl, sq, r⟩ := h
    cases hp : toPysD l with
    | none =>
      rw [hp] at e
      cases e
    | some ps =>
      rw [hp] at e
      cases e
      exact .lst sq.2 (dpDs_of l ps vs hp r)
  | .dct ks l, p, _, e, h => by
    unfold RepD at h
    obtain ⟨a, vs, rfl, _, rd, hl, r⟩ := h
    rcases toPyD_dct e with ⟨rfl, rfl, rfl⟩ | ⟨k, i, rfl, rfl, rfl⟩
    · exact .dct rd
    · obtain ⟨v, r', rfl, h1, h2⟩ := r.inv
      obtain rfl := h2.inv0
      unfold RepD at h1
      subst h1
      exact .dct1 rd
  | .obj _ _, _, _, e, _ => by unfold toPyD at e; cases e
  | .fn _, _, _, e, _ => by unfold toPyD at e; cases e
  | .scr _, _, _, e, _ => by unfold toPyD at e; cases e
theorem dpDs_of {A : Hid} {H : Hp} : ∀ (ds : List D) (ps : List PyData) (vs : List V), toPysD ds = some ps → RepDs G A H ds vs → DpDs G.K H vs ps
  | [], _, _, e, h => by
    unfold toPysD at e
    cases e
    obtain rfl := h.inv0
    exact .nil
  | d :: ds, _, _, e, h => by
    obtain ⟨v, r, rfl, h1, h2⟩ := h.inv
    unfold toPysD at e
    cases hd : toPyD d with
    | none =>
      rw [hd] at e
      cases e
    | some p =>
      cases hs : toPysD ds with
      | none =>
        rw [hd, hs] at e
        cases e
      | some ps =>
        rw [hd, hs] at e
        cases e
        exact .cons (dpD_of d p v hd h1) (dpDs_of ds ps r hs h2)
end
theorem dpD_t {A : Hid} {H : Hp} {d : D} {p : PyData} {v : V} (e : toPyD d = some p) (h : RepT G A H d v) : DpD G.K H v p := by
  rcases h with h | ⟨a, rfl, _, h⟩
  · exact dpD_of d p v e h
  · cases d with
    | lst l =>
      unfold toPyD at e
      obtain ⟨vs, hp, r⟩ := h
      cases hq : toPysD l with
      | none =>
        rw [hq] at e
        cases e
      | some ps =>
        rw [hq] at e
        cases e
        exact .lst hp (dpDs_of l ps vs hq r)
    | dct ks l =>
      obtain ⟨vs, hp, hl, r⟩ := h
      rcases toPyD_dct e with ⟨rfl, rfl, rfl⟩ | ⟨k, i, rfl, rfl, rfl⟩
      · exact .dct (.inl hp)
      · obtain ⟨v, r', rfl, h1, h2⟩ := r.inv
        obtain rfl := h2.inv0
        unfold RepD at h1
        subst h1
        exact .dct1 (.inl hp)
    | obj _ _ => unfold toPyD at e; cases e
    | _ => exact h.elim
def fReprD (d : D) : Option RV := match toPyD d with
  | some p => if PyData.showable p = true ∧ p.depth ≤ 64 ∧ szOk p.shown.length = true then some (.dat (.str p.shown)) else none
  | none => none
def rReprD (K : PySem.W.Frag) : List V → Hp → VK → Prop := fun xs H Q => ∃ x p, xs = [x] ∧ DpD K H x p ∧ PyData.showable p = true ∧ p.depth ≤ 64 ∧ p.shown.length ≤ sizeLine ∧ Q (.str p.shown) H
theorem call_reprD (hgu : X.A.guards = some []) (hun : X.A.units + 150 < cLine) : CallR X (.builtin "repr") (rReprD X.K) := by
  intro pins s σ H xs us Q I r h
  obtain ⟨x, p, rfl, hp, hs, hdp, hz, q⟩ := h
  obtain ⟨u, rfl, ru⟩ := vals1 r
  have rd := DpD.reads I _ _ _ hp ru
  have fin : ∀ a, u = .ref a → wpAny (model X.prog X.w) X.A (call (.builtin "repr") [u]) (EP X pins σ Q) X.xe s := fun a e => by
    subst e
    exact repr_rdE rd hs hz hgu (by omega) fun h' u tk hk => ⟨.str _, H, I.kept hk, ⟨_, rfl⟩, q⟩
  cases hp with
  | non =>
    cases ru
    exact PySem.P.repr_of_none ⟨.str _, H, I.tok _, ⟨_, rfl⟩, q⟩
  | bl b =>
    cases ru
    exact PySem.P.repr_of_bool ⟨.str _, H, I.tok _, ⟨_, rfl⟩, q⟩
  | int i =>
    obtain ⟨t, rfl⟩ := ru
    exact PySem.P.repr_of_int (of_decide_eq_true hs) ⟨.str _, H, I.tok _, ⟨_, rfl⟩, q⟩
  | str z =>
    obtain ⟨t, rfl⟩ := ru
    exact PySem.P.repr_of_str ⟨.str _, H, I.tok _, ⟨_, rfl⟩, q⟩ hz
  | lst sq da => exact fin _ ru
  | tup sq da => exact fin _ ru
  | dct sq => exact fin _ ru
  | dct1 sq => exact fin _ ru
theorem o_reprD : Cb1 G (rReprD G.K) fReprD := fun d rv A H x Q e t h q => by
  unfold fReprD at e
  split at e
  · rename_i p hp
    split at e
    · rename_i hc
      cases e
      exact ⟨x, p, rfl, dpD_t hp h, hc.1, hc.2.1, szOk.le hc.2.2, q _ A H (Ext.refl t) rvS⟩
    · cases e
  · cases e
end
end Tk
/-! Tk51: a dict of two numbers, written, its values two names; its repr. -/
namespace Tk
open PySem PySem.Spec PyProof.Rows L2
section
variable {G : Tb} {XR : XW} {W : WX} {X : Cx}
def cDct2 (i j : Int) (a b : Nat) : EF := fun env => match env[a]?, env[b]? with
  | some (some (.dat x)), some (some (.dat y)) => some (.ok (.fresh (.dct [.inl i, .inl j] [x, y])) env)
  | _, _ => none
theorem merge2 {i j : Int} {v w : V} (h : i ≠ j) : mergeK [] [(.inl i, v), (.inl j, w)] = [(.inl i, v), (.inl j, w)] := by
  have e : ((Sum.inl i : Key) = .inl j) = False := by simp [h]
  simp [mergeK, putK, e]
theorem ev_dct2 {i j : Int} {a b : Nat} {ea eb : Expr} {j1 j2 : Nat} {p1 p2 pos : Pos} (hij : i ≠ j) (ha : PE X ea (tVar a)) (hb : PE X eb (tVar b)) :
    PE X (.Dict [some (.Constant (.int i) j1 p1), some (.Constant (.int j) j2 p2)] [ea, eb] pos) (tEv G XR W (cDct2 i j a b)) :=
  PE_imp (pe_disp (pps_cons pe_int ha (pps_cons pe_int hb pps_nil)) rfl rfl (by simp) (by simp)) fun σ H Q ⟨A, env, R, p⟩ => fun l n => by
    unfold cDct2 at p
    split at p
    · rename_i x y h1 h2
      obtain ⟨v, e1, c1⟩ := R.cell a _ h1
      obtain ⟨w, e2, c2⟩ := R.cell b _ h2
      refine ⟨v, e1, w, e2, upd_same, [(.inl i, v), (.inl j, w)], rfl, by simp, ?_⟩
      rw [merge2 hij]
      have ee : upd (upd H l (.dK [])) l (.dK [(.inl i, v), (.inl j, w)]) = upd H l (.dK [(.inl i, v), (.inl j, w)]) := upd_upd
      rw [ee]
      have e : Ext A H (fun a => A a ∨ a = l) (upd H l (.dK [(.inl i, v), (.inl j, w)])) := Ext.newOwn R.tup n (fun _ z => by cases z) (fun _ _ z => by cases z)
      refine p _ _ (e.rep R) (e.fr _) (.ref l) ⟨l, rfl, n, .inr rfl, ?_, [v, w], upd_same, rfl, .cons (RepD.mono e.stab R.tup _ _ c1) (.cons (RepD.mono e.stab R.tup _ _ c2) .nil)⟩
      intro o
      have o2 := R.own_some o
      obtain ⟨z, hz⟩ := o2
      rw [n] at hz
      cases hz
    · exact p.elim
/-! ### its repr -/
def two (i j : Int) (p q : PyData) : PyData := .dict [(.int i, p), (.int j, q)]
def rRepr2 (K : PySem.W.Frag) : List V → Hp → VK → Prop := fun xs H Q => ∃ a i j x y p q, xs = [.ref a] ∧ Rd H a (.dK [(.inl i, x), (.inl j, y)]) ∧ DpD K H x p ∧ DpD K H y q ∧ PyData.showable (two i j p q) = true ∧ (two i j p q).depth ≤ 64 ∧ (two i j p q).shown.length ≤ sizeLine ∧ Q (.str (two i j p q).shown) H
theorem two_parts {i j : Int} {p q : PyData} {n : Nat} (z : (two i j p q).shown.length ≤ n) : p.shown.length ≤ n ∧ q.shown.length ≤ n := by
  unfold two at z
  rw [PyData.shown_dict, PyData.shownKv_cons, PyData.shownKv_cons, PyData.shownKv_nil] at z
  have e : Str.join ", " [(PyData.int i).shown ++ ": " ++ p.shown, (PyData.int j).shown ++ ": " ++ q.shown] = ((PyData.int i).shown ++ ": " ++ p.shown) ++ ", " ++ ((PyData.int j).shown ++ ": " ++ q.shown) := rfl
  rw [e] at z
  simp only [Str.length_append] at z
  constructor <;> omega
theorem call_repr2 (hgu : X.A.guards = some []) (hun : X.A.units + 150 < cLine) : CallR X (.builtin "repr") (rRepr2 X.K) := by
  intro pins s σ H xs us Q I r h
  obtain ⟨a, i, j, x, y, p, q, rfl, hd, hx, hy, hs, hdp, hz, k⟩ := h
  obtain ⟨u, rfl, ru⟩ := vals1 r
  cases ru
  obtain ⟨_, hsm, vs, kv, o, es, ep, ho, hxd, hdat, _, hp, _⟩ := dk_rd I.hok hd
  cases kv with
  | @cons p1 q1 ps qs r1 r2 =>
    cases r2 with
    | @cons p2 q2 ps2 qs2 r3 r4 =>
      cases r4
      obtain ⟨ka, va⟩ := q1
      obtain ⟨kb, vb⟩ := q2
      obtain ⟨h1, h2⟩ := r1
      obtain ⟨h3, h4⟩ := r3
      simp only at h1 h2 h3 h4
      subst h1
      subst h3
      generalize hl : es.toList = l at hp
      cases hp with
      | @cons ea _ _ _ k1 k2 k3 =>
        cases k3 with
        | @cons eb _ _ _ k4 k5 k6 =>
          cases k6
          simp only [mixKind] at k1 k4
          rcases L2.keyIs_shape k1 with ⟨i', t, z, e1⟩ | ⟨x', t, z, e1⟩ <;> cases z
          rcases L2.keyIs_shape k4 with ⟨j', t', z, e2⟩ | ⟨x', t', z, e2⟩ <;> cases z
          have rx := DpD.reads I _ _ _ hx h2
          have ry := DpD.reads I _ _ _ hy h4
          obtain ⟨zx, zy⟩ := two_parts hz
          have hs' := hs
          simp only [two, PyData.showable, PyData.showableKv, Bool.and_eq_true] at hs'
          obtain ⟨⟨si, sp⟩, ⟨sj, sq⟩, _⟩ := hs'
          obtain ⟨bs1, m1, s1⟩ := rx.shows (prog := X.prog) (w := X.w) sp zx
          obtain ⟨bs2, m2, s2⟩ := ry.shows (prog := X.prog) (w := X.w) sq zy
          obtain ⟨asx, plx⟩ := rx.plain
          obtain ⟨asy, ply⟩ := ry.plain
          have dp : (two i j p q).depth = max p.depth q.depth + 1 := by
            simp only [two, PyData.depth, PyData.depthKv]
            simp
          have hua : X.A.in1.units + (max p.depth q.depth + 1) < cLine := by
            show X.A.units + 1 + (max p.depth q.depth + 1) < cLine
            omega
          have na : a ∉ bs1 ++ bs2 := by
            have pl : Reads s.heap (.ref a) (two i j p q) _ := Reads.dict (kvs := [(.int i, p), (.int j, q)]) ho hxd.1 hdat (by rw [hl]; simp only [List.map_cons, List.map_nil, e1, e2]; exact .cons (.int i t) (.cons (.int j t') .nil)) (by rw [hl]; simp only [List.map_cons, List.map_nil, k2, k5]; exact .cons plx (.cons ply .nil))
            intro hm
            rcases List.mem_append.mp hm with hm | hm
            · exact not_mem_of_deeper pl (by rw [dp]; exact Nat.lt_succ_of_le (Nat.le_max_left _ _)) m1 hm
            · exact not_mem_of_deeper pl (by rw [dp]; exact Nat.lt_succ_of_le (Nat.le_max_right _ _)) m2 hm
          have e : (two i j p q).shown = dictText [(PyData.int i).shown ++ ": " ++ p.shown, (PyData.int j).shown ++ ": " ++ q.shown] := by simp only [two, PyData.shown, PyData.shownKv]
          rw [e] at k hz
          refine call_repr_slot (by omega) ⟨o, ho, hxd.1⟩ F.slot_dict_repr (call_dict_reprK (as := bs1 ++ bs2) (d := max p.depth q.depth) ho hxd.1 hdat hsm na ?_ hgu (fun b _ => Clear.nil b) hua (fun _ _ e => e) (fun h' u tk hk => ⟨_, _, rfl, ⟨.str _, H, I.kept hk, ⟨_, rfl⟩, k⟩⟩) hz)
          rw [hl]
          refine .cons ?_ ?_ (.cons ?_ ?_ .nil)
          · rw [e1]
            simp only [PyData.shown]
            exact .of_is (ReprIs.int t (of_decide_eq_true si)) _ _ _
          · rw [k2]
            exact (s1.more fun b hb => List.mem_append_left _ hb).level_le (Nat.le_max_left _ _)
          · rw [e2]
            simp only [PyData.shown]
            exact .of_is (ReprIs.int t' (of_decide_eq_true sj)) _ _ _
          · rw [k5]
            exact (s2.more fun b hb => List.mem_append_right _ hb).level_le (Nat.le_max_right _ _)
def fRepr2 (d : D) : Option RV := match d with
  | .dct [.inl i, .inl j] [x, y] => match toPyD x, toPyD y with
    | some p, some q => if PyData.showable (two i j p q) = true ∧ (two i j p q).depth ≤ 64 ∧ szOk (two i j p q).shown.length = true then some (.dat (.str (two i j p q).shown)) else none
    | _, _ => none
  | _ => none
theorem o_repr2 : Cb1 G (rRepr2 G.K) fRepr2 := fun d rv A H x Q e t h q => by
  unfold fRepr2 at e
  split at e
  · rename_i i j x1 y1
    split at e
    · rename_i p1 q1 hp hq
      split at e
      · rename_i hc
        cases e
        have hh : ∃ a x2 y2, x = .ref a ∧ Rd H a (.dK [(.inl i, x2), (.inl j, y2)]) ∧ RepD G A H x1 x2 ∧ RepD G A H y1 y2 := by
          rcases h with h | ⟨p, rfl, _, h⟩
          · unfold RepD at h
            obtain ⟨a, vs, rfl, _, rd, hl, r⟩ := h
            obtain ⟨v1, r', rfl, h1, h2⟩ := r.inv
            obtain ⟨v2, r'', rfl, h3, h4⟩ := h2.inv
            obtain rfl := h4.inv0
            exact ⟨a, v1, v2, rfl, rd, h1, h3⟩
          · obtain ⟨vs, rd, hl, r⟩ := h
            obtain ⟨v1, r', rfl, h1, h2⟩ := r.inv
            obtain ⟨v2, r'', rfl, h3, h4⟩ := h2.inv
            obtain rfl := h4.inv0
            exact ⟨p, v1, v2, rfl, .inl rd, h1, h3⟩
        obtain ⟨a, x2, y2, rfl, rd, r1, r2⟩ := hh
        exact ⟨a, i, j, x2, y2, p1, q1, rfl, rd, dpD_of _ _ _ hp r1, dpD_of _ _ _ hq r2, hc.1, hc.2.1, szOk.le hc.2.2, q _ A H (Ext.refl t) rvS⟩
      · cases e
    · cases e
  · cases e
/-- of a dict of two numbers, or of other data -/
def fReprE (d : D) : Option RV := match fRepr2 d with
  | some r => some r
  | none => fReprD d
theorem o_reprE : Cb1 G (fun xs H Q => rRepr2 G.K xs H Q ∨ rReprD G.K xs H Q) fReprE := fun d rv A H x Q e t h q => by
  unfold fReprE at e
  split at e
  · rename_i r hr
    cases e
    exact .inl (o_repr2 d rv A H x Q hr t h q)
  · exact .inr (o_reprD d rv A H x Q e t h q)
theorem call_reprE (hgu : X.A.guards = some []) (hun : X.A.units + 150 < cLine) : CallR X (.builtin "repr") (fun xs H Q => rRepr2 X.K xs H Q ∨ rReprD X.K xs H Q) := CallR.or (call_repr2 hgu hun) (call_reprD hgu hun)
end
end Tk
/-! TkY: try with several clauses, some of which name the exception. -/
namespace Tk
open PySem PySem.Spec PyProof.Rows L2
/-- one clause: the slot of its name, its class, what its suite does -/
abbrev Hm := Option Nat × Value × (Addr → Value → Option Addr → TS)
def cutN (i : Nat) (D : Ends) : Ends := ⟨fun σ' H' => D.nx (σ'.set i none) H', D.rt, fun σ' H' => D.bk (σ'.set i none) H', fun σ' H' => D.ct (σ'.set i none) H'⟩
def goS (oi : Option Nat) (ts : Addr → Value → Option Addr → TS) (a : Addr) (cls : Value) (d : Option Addr) (D : Ends) (σ : L2.St) (H : Hp) : Prop := match oi with
  | none => ts a cls d D σ H
  | some i => ts a cls d (cutN i D) (σ.set i (some (.ref a))) H
def wMix (K : PySem.W.Frag) (Wo : WX) (D : Ends) : List Hm → WX
  | [] => Wo
  | (oi, c, ts) :: r => fun cls d σ H => ∃ b, PySem.W.exmOne K cls c = some b ∧ (b = true → ∀ a, H a = none → goS oi ts a cls d D σ H) ∧ (b = false → wMix K Wo D r cls d σ H)
inductive HdsM (X : Cx) : List ExceptHandler → List Hm → Prop
  | nil : HdsM X [] []
  | cons {x : Str} {c : Value} {oi : Option Nat} {on : Option Str} {ts : Addr → Value → Option Addr → TS} {b0 : Stmt} {suite : List Stmt} {np pos' : Pos} {hds : List ExceptHandler} {l : List Hm}
      (hn : (oi = none ∧ on = none) ∨ ∃ i n, oi = some i ∧ on = some n ∧ X.N[i]? = some n ∧ X.env.kindOf n = some .local) (hc : Names X x c)
      (hu : ∀ (a : Addr) (oe : Obj) (cls : Value) (d : Option Addr) (pn : List (Addr × Obj)), Zc cls d oe → (∃ vs, oe.data = .fields vs) → PSs (X.suite a ((a, oe) :: pn)) (b0 :: suite) (ts a cls d)) (r : HdsM X hds l) :
      HdsM X (.ExceptHandler (some (.Name x np)) on (b0 :: suite) pos' :: hds) ((oi, c, ts) :: l)
theorem ps_try_mix {X : Cx} {body : List Stmt} {h0 : ExceptHandler} {hds : List ExceptHandler} {l : List Hm} {pos : Pos} {tb : WX → TS} {Wo : WX} (st : X.stack = X.env :: X.outer) (fe : X.env.frame = some X.env.locals) (nd : X.N.Nodup) (tk : Takes X Wo)
    (hb : ∀ (W : WX) (pn : List (Addr × Obj)) (xe : Value → Shared → Prop), Takes (X.tr pn xe) W → PassesOwn (model X.prog X.w) X.A X.env xe → PSs (X.tr pn xe) body (tb W)) (hh : HdsM X (h0 :: hds) l) :
    PS X (.Try body (h0 :: hds) [] [] pos) (fun D σ H => tb (wMix X.K Wo D l) D σ H) := by
  refine ⟨fun pins s σ H D I h => ?_⟩
  have okI := I.ok
  have frm : X.A.frames = some (X.env :: X.outer) := okI.frames.trans (by rw [st])
  refine wpAny_Try_except (wpAny_mono ((hb (wMix X.K Wo D l) (X.pn ++ pins) (fun e s1 => wpAny (model X.prog X.w) X.A (noteFrame e X.env) (fun _ s2 => wpAny (model X.prog X.w) X.A (setFlight e none) (fun _ s3 =>
    wpAny (model X.prog X.w) X.A (handleBy e X.env (h0 :: hds)) (SP X pins D) X.xe s3) X.xe s2) X.xe s1) (fun u s' xx => ?caught) PassesOwn.looking).run [] s σ H D (I.toTry _) h) (fun f s1 hsp => ?behind) (fun e s1 he => he))
  case caught =>
    obtain ⟨a, B, sI, pins', σ', H', cls, d, rfl, J', nb, up, sky, na, os, ag, wish⟩ := xx
    have J : Inv X pins σ' H' sI := J'.ofTry okI
    show wpAny (model X.prog X.w) X.A (noteFrame (.ref a) X.env) _ _ _
    refine Sky.land Zc.steady frm fe (by rw [← st]; exact sky) fun h3 fl3 up3 => ?_
    have J3 : Inv X pins σ' H' { s' with heap := h3 } := J.landed nb fl3.1 (up.trans up3) os ag
    obtain ⟨oe3, vs3, he3, hz3, hd3⟩ := fl3.there
    have nfr : a ∉ frs (X.env :: X.outer) := fun hm => by
      obtain ⟨_, o', e', hnf⟩ := fl3.2.2.1.mem hm
      rw [he3] at e'
      cases e'
      exact hnf _ hd3
    have nL : a ≠ X.env.locals := fun z => nfr (List.mem_filterMap.mpr ⟨_, List.mem_cons_self, by rw [fe, z]⟩)
    have nF : a ∉ X.fs := fun hm => by
      obtain ⟨e, he, q⟩ := List.mem_filterMap.mp hm
      exact nfr (List.mem_filterMap.mpr ⟨_, List.mem_cons_of_mem _ he, q⟩)
    have S3 := J3.suite he3 hd3 na nL nF
    have go : ∀ {hs2 : List ExceptHandler} {l2 : List Hm}, HdsM X hs2 l2 → wMix X.K Wo D l2 cls d σ' H' → wpAny (model X.prog X.w) X.A (handleBy (.ref a) X.env hs2) (SP X pins D) X.xe { s' with heap := h3 } := by
      intro hs2 l2 hk
      induction hk with
      | nil =>
        intro w
        refine wpAny_handleBy_nil ?_
        obtain ⟨k1, k2, k3, oe, vs, T, oT, ts', he, hz, hd, h1, hr⟩ := id fl3
        unfold PySem.passOn
        refine wpAny_bind (wpAny_field he hd h1 ?_)
        rw [if_neg (show ¬ ((Value.ref T == Value.none) = true) by simp)]
        have fin : wpAny (model X.prog X.w) X.A (setFlight (.ref a) X.env.frame) (fun _ s4 => wpAny (model X.prog X.w) X.A (throw (.ref a) : Sem Flow) (SP X pins D) X.xe s4) X.xe { s' with heap := h3 } := by
          rw [fe]
          exact HandSPX.setFlight_upZ fl3 fun h4 hh4 up4 => wpAny_throw (tk _ _ ⟨a, B, sI, pins, σ', H', cls, d, rfl, J, nb, (up.trans up3).trans up4, .inr (.inr (by rw [st]; exact hh4)), na, os, ag, w⟩)
        first
          | exact wpAny_bind (wpAny_pure (wpAny_bind fin))
          | exact wpAny_bind fin
      | @cons x c oi on ts b0 suite np pos' hds2 l2 hn hc hu r ih =>
        intro w
        obtain ⟨b, hb1, hyes, hno⟩ := w
        refine wpAny_handleBy_cons (codeAny_handlers_test ?_) (by intro q; cases q)
        have LM := PySem.W.exm_one (M := model X.prog X.w) J3.kIn (fun A Q E s k q => wpAny_typeOf_ref (k _ _ he3) (by rw [hz3.1]; exact q)) hb1
        have test : ∀ {Q : Value → Shared → Prop} {E : Value → Shared → Prop}, Q c { s' with heap := h3 } → wpAny (model X.prog X.w) (X.A.mark (some (.ref a))) (eval (.Name x np) X.env) Q E { s' with heap := h3 } := fun {Q E} q => by
          obtain ⟨hg, hdbg, hm | ⟨hm, hv, hnn⟩⟩ := hc
          · exact ld_glob (X := X.suite a ((a, oe3) :: (X.pn ++ pins))) S3 hg hm q hdbg
          · exact ld_blt (X := X.suite a ((a, oe3) :: (X.pn ++ pins))) S3 hg hm hv q hnn hdbg
        refine test (LM.here ?_)
        cases b with
        | false => exact ih (hno rfl)
        | true =>
          have yes := hyes rfl a na
          rcases hn with ⟨rfl, rfl⟩ | ⟨i, n, rfl, rfl, hi, hln⟩
          · refine codeAny_handlers_suite (HandSPX.lands_againZ fl3 fun h4 fl4 up4 => ?_)
            have J4 : Inv X pins σ' H' { s' with heap := h4 } := J.landed nb fl4.1 ((up.trans up3).trans up4) os ag
            obtain ⟨oe4, vs4, he4, hz4, hd4⟩ := fl4.there
            refine wpAny_mono ((hu a oe4 cls d (X.pn ++ pins) hz4 ⟨_, hd4⟩).run [] _ _ H' _ (J4.suite he4 hd4 na nL nF) yes) (fun f s6 hsp => ?_) (fun _ _ z => False.elim z)
            cases f with
            | ret u =>
              obtain ⟨v6, σ6, H6, S6, r6, q6⟩ := hsp
              exact ⟨_, _, _, S6.unsuite okI, r6, q6⟩
            | _ =>
              obtain ⟨σ6, H6, S6, q6⟩ := hsp
              exact ⟨_, _, S6.unsuite okI, q6⟩
          · refine codeAny_handlers_suite_as (HandSPX.lands_againZ fl3 fun h4 fl4 up4 => ?_)
            have J4 : Inv X pins σ' H' { s' with heap := h4 } := J.landed nb fl4.1 ((up.trans up3).trans up4) os ag
            obtain ⟨oe4, vs4, he4, hz4, hd4⟩ := fl4.there
            refine store_ok (X := X.suite a ((a, oe4) :: (X.pn ++ pins))) (v := .ref a) (J4.suite he4 hd4 na nL nF) nd hi (.inl hln) rfl (fun s5 S5 => ?_) (.inr hln)
            refine wpAny_mono ((hu a oe4 cls d (X.pn ++ pins) hz4 ⟨_, hd4⟩).run [] s5 _ H' _ S5 yes) (fun f s6 hsp => ?_) (fun _ _ z => False.elim z)
            have over : ∀ {σ6 : L2.St} {H6 : Hp} {Q : Shared → Prop}, Inv (X.suite a ((a, oe4) :: (X.pn ++ pins))) [] σ6 H6 s6 → (∀ s7, Inv X pins (σ6.set i none) H6 s7 → Q s7) →
                wpAny (model X.prog X.w) X.A (do bindName X.env n .none; unbindBehindTheSuite X.env n pos') (fun _ s7 => Q s7) X.xe s6 := fun S6 hq => gone_ok (S6.unsuite okI) nd hi hln hq
            cases f with
            | ret u =>
              obtain ⟨v6, σ6, H6, S6, r6, q6⟩ := hsp
              exact over S6 fun s7 J7 => ⟨_, _, _, J7, r6, q6⟩
            | _ =>
              obtain ⟨σ6, H6, S6, q6⟩ := hsp
              exact over S6 fun s7 J7 => ⟨_, _, J7, q6⟩
    exact go hh wish
  case behind =>
    cases f with
    | next =>
      obtain ⟨σ', H', J', q⟩ := hsp
      exact wpAny_execs_nil ⟨σ', H', J'.ofTry okI, q⟩
    | ret u =>
      obtain ⟨v, σ', H', J', r, q⟩ := hsp
      exact ⟨v, σ', H', J'.ofTry okI, r, q⟩
    | _ =>
      obtain ⟨σ', H', J', q⟩ := hsp
      exact ⟨σ', H', J'.ofTry okI, q⟩
/-! ### the mirror -/
abbrev Hg := Option Nat × (Nat → Option Bool) × SF
def leave0 : Option (Rs Fl) → Option (Rs Fl)
  | some (.ok fl e) => if e.all noX = true then some (.ok fl e) else none
  | _ => none
def handG : List Hg → Exc → Env → Option (Rs Fl)
  | [], x, e => some (.ex x e)
  | (oi, m, g) :: r, x, e => match m x.cls with
    | some true => match oi with
      | none => if e.all noX = true then leave0 (g e) else none
      | some i => match (e[i]? : Option (Option Cell)) with
        | some none => if e.all noX = true then leaveX i (g (e.set i (some (.exc x)))) else none
        | _ => none
    | some false => handG r x e
    | none => none
def sTryM (hs : List Hg) (body : SF) : SF := fun env => match body env with
  | some (.ex x e) => handG hs x e
  | r => r
section
variable {G : Tb} {W : WX} {X : Cx} {fx : List Nat}
theorem Rep.atX {z : Option (Addr × Value × Option Addr)} {σ : L2.St} {A : Hid} {H : Hp} {e : Env} (R : Rep G A σ H e) (h0 : e.all noX = true) : Rep (G.at z) A σ H e := by
  refine ⟨R.len, R.tup, fun j c k => ?_, R.inj⟩
  obtain ⟨v, e1, c1⟩ := R.cell j c k
  refine ⟨v, e1, ?_⟩
  cases c with
  | dat d => exact (RepD_at d v).mpr c1
  | own d =>
    obtain ⟨p, e2, a, t⟩ := c1
    exact ⟨p, e2, a, (RepTop_at d p).mpr t⟩
  | exc y => exact absurd (get_noX h0 k) Bool.false_ne_true
theorem Rep.unX {z : Option (Addr × Value × Option Addr)} {σ : L2.St} {A : Hid} {H : Hp} {e : Env} (R : Rep (G.at z) A σ H e) (h0 : e.all noX = true) : Rep G A σ H e := by
  refine ⟨R.len, R.tup, fun j c k => ?_, R.inj⟩
  obtain ⟨v, e1, c1⟩ := R.cell j c k
  refine ⟨v, e1, ?_⟩
  cases c with
  | dat d => exact (RepD_at d v).mp c1
  | own d =>
    obtain ⟨p, e2, a, t⟩ := c1
    exact ⟨p, e2, a, (RepTop_at d p).mp t⟩
  | exc y => exact absurd (get_noX h0 k) Bool.false_ne_true
theorem OutOk.unX {z : Option (Addr × Value × Option Addr)} {σ : L2.St} {A : Hid} {H0 H : Hp} {e : Env} {o : Out} {v : V} (h : OutOk (G.at z) H0 A σ H e o v) : OutOk G H0 A σ H e o v := by
  cases o with
  | dat d => exact (RepD_at d v).mp h
  | fresh d =>
    obtain ⟨q, e4, n4, a4, o4, t4⟩ := h
    exact ⟨q, e4, n4, a4, o4, (RepTop_at d q).mp t4⟩
  | slot j => exact h
/-- the clauses -/
inductive HdsG (G : Tb) (X : Cx) (fx : List Nat) : List ExceptHandler → List Hg → Prop
  | nil : HdsG G X fx [] []
  | cons {x : Str} {c : Value} {oi : Option Nat} {on : Option Str} {m : Nat → Option Bool} {g : SF} {b0 : Stmt} {suite : List Stmt} {np pos' : Pos} {hds : List ExceptHandler} {l : List Hg}
      (hn : (oi = none ∧ on = none) ∨ ∃ i n, oi = some i ∧ on = some n ∧ X.N[i]? = some n ∧ X.env.kindOf n = some .local ∧ i ∉ fx) (hc : Names X x c)
      (hm : ∀ k C ns b, G.cls k = some (C, ns) → m k = some b → PySem.W.exmOne G.K (.ref C) c = some b)
      (hu : ∀ (a : Addr) (oe : Obj) (cls : Value) (d : Option Addr) (pn : List (Addr × Obj)), Zc cls d oe → (∃ vs, oe.data = .fields vs) → PSs (X.suite a ((a, oe) :: pn)) (b0 :: suite) (tEx (G.at (some (a, cls, d))) XRx W0 fx g)) (r : HdsG G X fx hds l) :
      HdsG G X fx (.ExceptHandler (some (.Name x np)) on (b0 :: suite) pos' :: hds) ((oi, m, g) :: l)
theorem HdsG.mix (B : X.K = G.K) {σ : L2.St} {A : Hid} {H : Hp} {env : Env} {D : Ends} : ∀ {hds : List ExceptHandler} {l : List Hg}, HdsG G X fx hds l → ∃ lm : List Hm, HdsM X hds lm ∧
    ∀ (x : Exc) (e : Env) (σ1 : L2.St) (A1 : Hid) (H1 : Hp) (c1 : Value) (d1 : Option Addr), Rep G A1 σ1 H1 e → Keep fx σ σ1 → Fr (Own σ env) A H (Own σ1 e) A1 H1 → XRx G x c1 d1 A1 H1 → PostS G XRx W fx D σ A H env (handG l x e) → wMix X.K W D lm c1 d1 σ1 H1
  | _, _, .nil => ⟨[], .nil, fun x e σ1 A1 H1 c1 d1 R1 K1 F1 xr p => p σ1 A1 H1 c1 d1 R1 K1 F1 xr⟩
  | _, _, @HdsG.cons _ _ _ xn c oi on m g b0 suite np pos' hds l hn hc hm hu r => by
    obtain ⟨lm, hk, ih⟩ := HdsG.mix B (σ := σ) (A := A) (H := H) (env := env) (D := D) r
    refine ⟨(oi, c, fun a cls d => tEx (G.at (some (a, cls, d))) XRx W0 fx g) :: lm, .cons (by
      rcases hn with z | ⟨i, n, z1, z2, z3, z4, _⟩
      · exact .inl z
      · exact .inr ⟨i, n, z1, z2, z3, z4⟩) hc hu hk, fun x e σ1 A1 H1 c1 d1 R1 K1 F1 xr p => ?_⟩
    obtain ⟨C, ns, hcl, rfl, xf⟩ := id xr
    unfold handG at p
    cases hmy : m x.cls with
    | none =>
      simp only [hmy] at p
      exact p.elim
    | some b =>
      refine ⟨b, by rw [B]; exact hm _ _ _ _ hcl hmy, fun hb1 a na => ?_, fun hb1 => ?_⟩
      · subst hb1
        simp only [hmy] at p
        rcases hn with ⟨rfl, rfl⟩ | ⟨i, n, rfl, rfl, hi, hln, hfx⟩
        · simp only at p
          by_cases hx : e.all noX = true
          · rw [if_pos hx] at p
            refine ⟨A1, e, R1.atX hx, ?_⟩
            cases hg : g e with
            | none =>
              rw [hg] at p
              exact p
            | some r2 =>
              rw [hg] at p
              cases r2 with
              | ex _ _ => exact p.elim
              | ok fl e2 =>
                unfold leave0 at p
                simp only at p
                by_cases ho : e2.all noX = true
                · rw [if_pos ho] at p
                  have keep : ∀ {σ2 : L2.St}, Keep fx σ1 σ2 → Keep fx σ σ2 := fun kk j hj => (kk j hj).trans (K1 j hj)
                  cases fl with
                  | next => exact fun σ2 A2 H2 R3 K3 F3 => p σ2 A2 H2 (R3.unX ho) (keep K3) (F1.trans F3)
                  | brk => exact fun σ2 A2 H2 R3 K3 F3 => p σ2 A2 H2 (R3.unX ho) (keep K3) (F1.trans F3)
                  | cont => exact fun σ2 A2 H2 R3 K3 F3 => p σ2 A2 H2 (R3.unX ho) (keep K3) (F1.trans F3)
                  | ret o =>
                    intro σ2 A2 H2 v R3 K3 F3 ok
                    refine p σ2 A2 H2 v (R3.unX ho) (keep K3) (F1.trans F3) ?_
                    cases o with
                    | dat d => exact (RepD_at d v).mp ok
                    | fresh d =>
                      obtain ⟨q, e4, n4, a4, o4, t4⟩ := ok
                      exact ⟨q, e4, F1.none n4, a4, o4, (RepTop_at d q).mp t4⟩
                    | slot j => exact ok
                · rw [if_neg ho] at p
                  exact p.elim
          · rw [if_neg hx] at p
            exact p.elim
        · simp only at p
          cases hei : (e[i]? : Option (Option Cell)) with
          | none =>
            simp only [hei] at p
            exact p.elim
          | some ce =>
            cases ce with
            | some _ =>
              simp only [hei] at p
              exact p.elim
            | none =>
              simp only [hei] at p
              by_cases hx : e.all noX = true
              · rw [if_pos hx] at p
                have R2 := R1.toX (z := (a, .ref C, d1)) hx hei hcl rfl xf
                refine ⟨A1, e.set i (some (.exc x)), R2, ?_⟩
                have keep : ∀ {σ2 : L2.St}, Keep fx (σ1.set i (some (.ref a))) σ2 → Keep fx σ (σ2.set i none) ∧ Keep fx σ σ2 := fun {σ2} kk => by
                  refine ⟨fun j hj => ?_, fun j hj => ?_⟩
                  all_goals have hij : i ≠ j := fun q => hfx (q ▸ hj)
                  · rw [List.getElem?_set_ne hij, kk j hj, List.getElem?_set_ne hij]
                    exact K1 j hj
                  · rw [kk j hj, List.getElem?_set_ne hij]
                    exact K1 j hj
                have fr0 : ∀ {σ2 : L2.St} {A2 : Hid} {H2 : Hp} {e2 : Env}, Fr (Own (σ1.set i (some (.ref a))) (e.set i (some (.exc x)))) A1 H1 (Own σ2 e2) A2 H2 → Fr (Own σ env) A H (Own σ2 e2) A2 H2 := fun f2 => F1.trans (f2.moreO fun p q => own_toX hei q)
                cases hg : g (e.set i (some (.exc x))) with
                | none =>
                  rw [hg] at p
                  exact p
                | some r2 =>
                  rw [hg] at p
                  cases r2 with
                  | ex _ _ => exact p.elim
                  | ok fl e2 =>
                    unfold leaveX at p
                    simp only at p
                    by_cases ho : outX i fl = true ∧ (e2.set i none).all noX = true
                    · rw [if_pos ho] at p
                      cases fl with
                      | next => exact fun σ2 A2 H2 R3 K3 F3 => p (σ2.set i none) A2 H2 (R3.ofX ho.2 (.inr rfl)) (keep K3).1 ((fr0 F3).lessO fun q => own_clear)
                      | brk => exact fun σ2 A2 H2 R3 K3 F3 => p (σ2.set i none) A2 H2 (R3.ofX ho.2 (.inr rfl)) (keep K3).1 ((fr0 F3).lessO fun q => own_clear)
                      | cont => exact fun σ2 A2 H2 R3 K3 F3 => p (σ2.set i none) A2 H2 (R3.ofX ho.2 (.inr rfl)) (keep K3).1 ((fr0 F3).lessO fun q => own_clear)
                      | ret o =>
                        intro σ2 A2 H2 v R3 K3 F3 ok
                        refine p σ2 A2 H2 v (R3.ofX ho.2 (.inl rfl)) (keep K3).2 ((fr0 F3).lessO fun q => own_clear') ?_
                        cases o with
                        | dat d => exact (RepD_at d v).mp ok
                        | fresh d =>
                          obtain ⟨q, e4, n4, a4, o4, t4⟩ := ok
                          exact ⟨q, e4, F1.none n4, a4, fun z => o4 (own_clear' z), (RepTop_at d q).mp t4⟩
                        | slot j => exact ok
                    · rw [if_neg ho] at p
                      exact p.elim
              · rw [if_neg hx] at p
                exact p.elim
      · subst hb1
        simp only [hmy] at p
        exact ih x e σ1 A1 H1 _ d1 R1 K1 F1 xr p
theorem es_tryM {k : Nat} {body : List Stmt} {h0 : ExceptHandler} {hds : List ExceptHandler} {l : List Hg} {pos : Pos} {f : SF} (B : Bx G W k X) (st : X.stack = X.env :: X.outer) (fe : X.env.frame = some X.env.locals) (hh : HdsG G X fx (h0 :: hds) l)
    (hb : ∀ (W' : WX) (pn : List (Addr × Obj)) (xe : Value → Shared → Prop), Takes (X.tr pn xe) W' → PassesOwn (model X.prog X.w) X.A X.env xe → PSs (X.tr pn xe) body (tEx G XRx W' fx f)) :
    PS X (.Try body (h0 :: hds) [] [] pos) (tEx G XRx W fx (sTryM l f)) := by
  refine ⟨fun pins s σ H D I h => ?_⟩
  obtain ⟨A, env, R, p⟩ := h
  obtain ⟨lm, hk, go⟩ := hh.mix B.kk (W := W) (σ := σ) (A := A) (H := H) (env := env) (D := D)
  refine (ps_try_mix (tb := fun W' => tEx G XRx W' fx f) (Wo := W) st fe B.nd B.tk hb hk).run pins s σ H D I ⟨A, env, R, ?_⟩
  unfold sTryM at p
  cases hr : f env with
  | none =>
    rw [hr] at p
    exact p
  | some r =>
    rw [hr] at p
    cases r with
    | ok fl e => cases fl <;> exact p
    | ex y e => exact fun σ1 A1 H1 c1 d1 R1 K1 F1 xr => go y e σ1 A1 H1 c1 d1 R1 K1 F1 xr p
end
end Tk
namespace K16
open PySem PySem.Spec PyProof.Rows L2 Tk
/-! needs Tk51 -/
/-! needs TkY -/
/-! raised: 0 NoForm, 1 NoNumber, 2 NoPlace -/
def mxm_NoPlace : Nat → Option Bool
  | 0 => some false
  | 1 => some false
  | 2 => some true
  | _ => none
def mxm_RowsError : Nat → Option Bool
  | 0 => some true
  | 1 => some true
  | 2 => some true
  | _ => none
def mki_NoForm : Nat → Option Bool
  | 0 => some true
  | 1 => some false
  | 2 => some false
  | _ => none
def mki_ValueError : Nat → Option Bool
  | 0 => some true
  | 1 => some true
  | 2 => some true
  | _ => none
def mf_what : Nat → Option Nat
  | 0 => some 0
  | _ => none
/-- L_pot: 0 L_script, 1 L_k, 2 L_cell -/
def g_L_pot : SF :=
  (sSeq (sSet [] 2 (cC (.int 0))) (sSeq (sIf (cTest (cBin fLt (cName 1) (cUn fLen (cName 0)))) (sSet [] 2 (cBin fIx (cName 0) (cName 1))) sNil) (sRet (cLst (aCons (cBin fMax (cC (.int 0)) (cBin fSub (cUn fAbs (cName 2)) (cBin fPow (cC (.int 10)) (cC (.int 18))))) (aCons (cBin fMod (cBin fAdd (cBin fAdd (cBin fMul (cBin fMod (cUn fAbs (cName 2)) (cC (.int 2147483629))) (cC (.int 48271))) (cBin fMul (cC (.int 60013)) (cName 1))) (cC (.int 29))) (cC (.int 2147483647))) aNil))))))
def P_L_pot (ds : List D) : Option RR := runP g_L_pot 3 ds
/-- L_digit: 0 L_pot_here, 1 L_many, 2 L_digit_here -/
def g_L_digit : SF :=
  (sSeq (sIf (cTest (cBin fGt (cBin fIx (cName 0) (cC (.int 0))) (cC (.int 0)))) (sSeq (sAsg (cBin fDivmod (cBin fIx (cName 0) (cC (.int 0))) (cName 1)) (gTp 2 (gsCons (gIx 0 (cC (.int 0))) (gsCons (gNm [0] 2) gsNil)))) (sRet (cName 2))) sNil) (sSeq (sAsg (cBin fMod (cBin fAdd (cBin fMul (cBin fIx (cName 0) (cC (.int 1))) (cC (.int 39373))) (cC (.int 12227))) (cC (.int 2147483629))) (gIx 0 (cC (.int 1)))) (sRet (cBin fMod (cBin fDiv (cBin fMod (cBin fMul (cBin fIx (cName 0) (cC (.int 1))) (cBin fIx (cName 0) (cC (.int 1)))) (cC (.int 2147483563))) (cC (.int 13))) (cName 1)))))
def P_L_digit (d : D) (ds : List D) : Option RM := runM g_L_digit 3 d ds
/-- L_mixed: 0 L_pot_here, 1 L_some, 2 L_left, 3 L_k -/
def ct_L_mixed_1 : GF :=
  (gNm [0, 1, 2] 3)
def cc_L_mixed_1 : TF :=
  tYesF
def ce_L_mixed_1 : UF :=
  (cUse (cMeth fPopAt 2 (aCons (cCallM 2 P_L_digit 0 (aCons (cUn fLen (cName 2)) aNil)) aNil)))
def g_L_mixed : SF :=
  (sSeq (sSet [0] 2 (cUn fListA (cName 1))) (sRet (cLc (iRg1 (aCons (cUn fLen (cName 2)) aNil)) [3] ct_L_mixed_1 cc_L_mixed_1 ce_L_mixed_1)))
def P_L_mixed (d : D) (ds : List D) : Option RM := runM g_L_mixed 4 d ds
/-- L_lines: 0 L_pot_here, 1 L_marks, 2 L_lines_here, 3 L_turn, 4 L_letter, 5 L_first, 6 L_step, 7 L_many, 8 L_k -/
def ct_L_lines_1 : GF :=
  (gNm [0, 1, 2, 3, 5, 6, 7, 8] 4)
def cc_L_lines_1 : TF :=
  tYesF
def ce_L_lines_1 : UF :=
  (cUse (cTup (aCons (cName 4) (aCons (cC (.int 0)) (aCons (cC (.int 1)) aNil)))))
def ct_L_lines_2 : GF :=
  (gNm [0, 1, 2, 3, 4, 5, 6, 7] 8)
def cc_L_lines_2 : TF :=
  tYesF
def ce_L_lines_2 : UF :=
  (cUse (cTup (aCons (cName 4) (aCons (cBin fAdd (cName 5) (cBin fMul (cName 8) (cName 6))) (aCons (cBin fMul (cName 6) (cName 7)) aNil)))))
def ft_L_lines_1 : GF :=
  (gNm [0] 3)
def fb_L_lines_1 : SF :=
  (sSeq (sAsg (cMeth fPopAt 2 (aCons (cCallM 2 P_L_digit 0 (aCons (cUn fLen (cName 2)) aNil)) aNil)) (gTp 3 (gsCons (gNm [0] 4) (gsCons (gNm [0] 5) (gsCons (gNm [0] 6) gsNil))))) (sSeq (sSet [0] 7 (cBin fAdd (cC (.int 2)) (cCallM 2 P_L_digit 0 (aCons (cC (.int 4)) aNil)))) (sSet [0] 2 (cBin fAdd (cName 2) (cLc (iRg1 (aCons (cName 7) aNil)) [8] ct_L_lines_2 cc_L_lines_2 ce_L_lines_2)))))
def g_L_lines : SF :=
  (sSeq (sSet [0] 1 (cSl (cCallM 2 P_L_mixed 0 (aCons (cC (.str "abcdefghijklmnopqrstuvwxyz")) aNil)) oNone (oSome (cBin fAdd (cC (.int 1)) (cCallM 2 P_L_digit 0 (aCons (cC (.int 4)) aNil)))))) (sSeq (sSet [0] 2 (cLc (iIt (cName 1)) [4] ct_L_lines_1 cc_L_lines_1 ce_L_lines_1)) (sSeq (sFor (iRg1 (aCons (cCallM 2 P_L_digit 0 (aCons (cC (.int 5)) aNil)) aNil)) ft_L_lines_1 fb_L_lines_1) (sRet (cCallM 2 P_L_mixed 0 (aCons (cName 2) aNil))))))
def P_L_lines (d : D) (ds : List D) : Option RM := runM g_L_lines 9 d ds
/-- L_far: 0 L_pot_here, 1 L_found, 2 L_k -/
def ft_L_far_1 : GF :=
  (gNm [0] 2)
def fb_L_far_1 : SF :=
  (sSet [0] 1 (cBin fAdd (cBin fMul (cName 1) (cBin fPow (cC (.int 10)) (cC (.int 8)))) (cCallM 2 P_L_digit 0 (aCons (cBin fPow (cC (.int 10)) (cC (.int 8))) aNil))))
def g_L_far : SF :=
  (sSeq (sSet [0] 1 (cC (.int 0))) (sSeq (sFor (iRg1 (aCons (cC (.int 8)) aNil)) ft_L_far_1 fb_L_far_1) (sRet (cBin fMod (cName 1) (cBin fPow (cC (.int 10)) (cC (.int 60)))))))
def P_L_far (d : D) (ds : List D) : Option RM := runM g_L_far 3 d ds
/-- L_good: 0 L_pot_here, 1 L_head_here, 2 L_tail_here, 3 L_letter, 4 L_first, 5 L_step, 6 L_turns, 7 L_early, 8 L_k -/
def ct_L_good_1 : GF :=
  (gNm [0, 1, 2, 3, 4, 5, 6, 7] 8)
def cc_L_good_1 : TF :=
  tYesF
def ce_L_good_1 : UF :=
  (cUse (cTup (aCons (cName 3) (aCons (cBin fAdd (cName 4) (cBin fMul (cName 8) (cName 5))) aNil))))
def ft_L_good_1 : GF :=
  (gTp 3 (gsCons (gNm [0] 3) (gsCons (gNm [0] 4) (gsCons (gNm [0] 5) gsNil))))
def fb_L_good_1 : SF :=
  (sSeq (sSet [0] 6 (cBin fIx (cLst (aCons (cCallM 2 P_L_digit 0 (aCons (cC (.int 4)) aNil)) (aCons (cBin fDiv (cCallM 1 P_L_far 0 aNil) (cBin fPow (cC (.int 10)) (cC (.int 5)))) aNil))) (cUn fInt (cBin (eqF false) (cCallM 2 P_L_digit 0 (aCons (cC (.int 6)) aNil)) (cC (.int 5)))))) (sSeq (sSet [0] 7 (cLc (iRg1 (aCons (cBin fMin (cName 6) (cC (.int 4))) aNil)) [8] ct_L_good_1 cc_L_good_1 ce_L_good_1)) (sSeq (sSet [0] 1 (cBin fAdd (cName 1) (cSl (cName 7) (oSome (cCallM 2 P_L_digit 0 (aCons (cBin fAdd (cUn fLen (cName 7)) (cC (.int 1))) aNil))) oNone))) (sIf (cTest (cBin fGt (cCallM 2 P_L_digit 0 (aCons (cC (.int 6)) aNil)) (cC (.int 0)))) (sExpr (cMeth fAppend 2 (aCons (cTup (aCons (cName 3) (aCons (cBin fAdd (cName 4) (cBin fMul (cName 6) (cName 5))) (aCons (cName 5) aNil)))) aNil))) sNil))))
def g_L_good : SF :=
  (sSeq (sPar [0] 1 2 (cLst aNil) (cLst aNil)) (sSeq (sFor (iIt (cCallM 1 P_L_lines 0 aNil)) ft_L_good_1 fb_L_good_1) (sRet (cTup (aCons (cUn fTuple (cCallM 2 P_L_mixed 0 (aCons (cName 1) aNil))) (aCons (cUn fTuple (cName 2)) aNil))))))
def P_L_good (d : D) (ds : List D) : Option RM := runM g_L_good 9 d ds
/-- L_met: 0 L_pot_here, 1 L_letter, 2 L_number_here, 3 L_stride, 4 L_back, 5 L_begin -/
def g_L_met : SF :=
  (sSeq (sSet [0] 3 (cBin fAdd (cC (.int 1)) (cCallM 2 P_L_digit 0 (aCons (cBin fIx (cLst (aCons (cC (.int 9)) (aCons (cBin fPow (cC (.int 10)) (cC (.int 6))) aNil))) (cCallM 2 P_L_digit 0 (aCons (cC (.int 2)) aNil))) aNil)))) (sSeq (sSet [0] 4 (cBin fMul (cCallM 2 P_L_digit 0 (aCons (cBin fIx (cLst (aCons (cC (.int 1)) (aCons (cC (.int 1000)) aNil))) (cCallM 2 P_L_digit 0 (aCons (cC (.int 2)) aNil))) aNil)) (cName 3))) (sSeq (sSet [0] 5 (cIfE (cTest (cBin fLe (cName 4) (cName 2))) (cBin fSub (cName 2) (cName 4)) (cBin fMod (cName 2) (cName 3)))) (sRet (cTup (aCons (cName 1) (aCons (cName 5) (aCons (cName 3) aNil))))))))
def P_L_met (d : D) (ds : List D) : Option RM := runM g_L_met 6 d ds
/-- L_twice: 0 L_pot_here, 1 L_head_here, 2 L_tail_here, 3 L_way, 4 L_at, 5 L_letter, 6 L_first, 7 L_step, 8 L_turn -/
def g_L_twice : SF :=
  (sSeq (sSet [0] 3 (cCallM 2 P_L_digit 0 (aCons (cC (.int 10)) aNil))) (sSeq (sSet [0] 4 (cCallM 2 P_L_digit 0 (aCons (cBin fMax (cC (.int 1)) (cUn fLen (cName 2))) aNil))) (sSeq (sIf (tAndF (cTest (cBin (eqF false) (cName 3) (cC (.int 0)))) (cTest (cBin (eqF true) (cName 1) (cTup aNil)))) (sRet (cTup (aCons (cBin fAdd (cName 1) (cSl (cSl (cName 1) (oSome (cCallM 2 P_L_digit 0 (aCons (cUn fLen (cName 1)) aNil))) oNone) oNone (oSome (cC (.int 1))))) (aCons (cName 2) aNil)))) sNil) (sSeq (sIf (tAndF (cTest (cBin fLt (cName 3) (cC (.int 4)))) (cTest (cBin (eqF true) (cName 2) (cTup aNil)))) (sSeq (sAsg (cBin fIx (cName 2) (cName 4)) (gTp 3 (gsCons (gNm [0] 5) (gsCons (gNm [0] 6) (gsCons (gNm [0] 7) gsNil))))) (sSeq (sSet [0] 8 (cCallM 2 P_L_digit 0 (aCons (cBin fIx (cLst (aCons (cC (.int 9)) (aCons (cBin fPow (cC (.int 10)) (cC (.int 20))) aNil))) (cCallM 2 P_L_digit 0 (aCons (cC (.int 2)) aNil))) aNil))) (sSeq (sIf (cTest (cBin (eqF false) (cName 3) (cC (.int 1)))) (sRet (cTup (aCons (cBin fAdd (cTup (aCons (cTup (aCons (cName 5) (aCons (cBin fAdd (cName 6) (cBin fMul (cName 8) (cName 7))) aNil))) aNil)) (cName 1)) (aCons (cName 2) aNil)))) sNil) (sSeq (sIf (cTest (cBin (eqF false) (cName 3) (cC (.int 2)))) (sRet (cTup (aCons (cName 1) (aCons (cBin fAdd (cName 2) (cSl (cName 2) (oSome (cName 4)) (oSome (cBin fAdd (cName 4) (cC (.int 1)))))) aNil)))) sNil) (sRet (cTup (aCons (cName 1) (aCons (cBin fAdd (cTup (aCons (cCallM 3 P_L_met 0 (aCons (cName 5) (aCons (cBin fAdd (cName 6) (cBin fMul (cName 8) (cName 7))) aNil))) aNil)) (cName 2)) aNil)))))))) sNil) (sRet (cTup (aCons (cName 1) (aCons (cName 2) aNil))))))))
def P_L_twice (d : D) (ds : List D) : Option RM := runM g_L_twice 9 d ds
/-- L_whole: 0 L_pot_here, 1 L_head_here, 2 L_tail_here, 3 L_some -/
def g_L_whole : SF :=
  (sSeq (sSet [0] 3 (cLst (aCons (cLst (aCons (cName 1) (aCons (cName 2) aNil))) (aCons (cTup (aCons (cName 1) aNil)) (aCons (cTup (aCons (cName 1) (aCons (cName 2) (aCons (cTup aNil) aNil)))) (aCons (cC .non) (aCons (cTup aNil) (aCons (cC (.str "ab")) (aCons (cDct2 0 1 1 2) (aCons (cC (.int 7)) (aCons (cTup (aCons (cName 1) (aCons (cName 2) (aCons (cName 1) (aCons (cName 2) aNil))))) aNil))))))))))) (sSeq (sIf (cTest (cBin (eqF false) (cCallM 2 P_L_digit 0 (aCons (cC (.int 6)) aNil)) (cC (.int 0)))) (sRet (cBin fIx (cName 3) (cCallM 2 P_L_digit 0 (aCons (cC (.int 9)) aNil)))) sNil) (sRet (cTup (aCons (cName 1) (aCons (cName 2) aNil))))))
def P_L_whole (d : D) (ds : List D) : Option RM := runM g_L_whole 4 d ds
/-- L_due: 0 L_thing, 1 L_whole_here, 2 L_bent, 3 L_twice_here -/
def g_L_due : SF :=
  (sSeq (sIf (cTest (cBin (eqF true) (cUn fReprE (cName 0)) (cUn fReprE (cName 1)))) (sRet (cC (.str "form"))) sNil) (sSeq (sIf (cTest (cBin (eqF true) (cUn fReprE (cBin fIx (cName 2) (cC (.int 0)))) (cUn fReprE (cBin fIx (cName 1) (cC (.int 0)))))) (sRet (cC (.str "head"))) sNil) (sSeq (sIf (cTest (cBin (eqF true) (cUn fReprE (cBin fIx (cName 2) (cC (.int 1)))) (cUn fReprE (cBin fIx (cName 1) (cC (.int 1)))))) (sRet (cC (.str "tail"))) sNil) (sRet (cIfE (cTest (cName 3)) (cC (.str "twice")) (cC .non))))))
def P_L_due (ds : List D) : Option RR := runP g_L_due 4 ds
/-- L_head: 0 L_pot_here, 1 L_head_here, 2 L_way, 3 L_at, 4 L_some, 5 L_k -/
def ct_L_head_1 : GF :=
  (gNm [0, 1, 2, 3, 4] 5)
def cc_L_head_1 : TF :=
  tYesF
def ce_L_head_1 : UF :=
  (cUse (cTup (aCons (cC (.str "q")) (aCons (cBin fAdd (cC (.int 1000)) (cName 5)) aNil))))
def g_L_head : SF :=
  (sSeq (sSet [0] 2 (cCallM 2 P_L_digit 0 (aCons (cC (.int 8)) aNil))) (sSeq (sSet [0] 3 (cCallM 2 P_L_digit 0 (aCons (cBin fAdd (cUn fLen (cName 1)) (cC (.int 1))) aNil))) (sSeq (sSet [0] 4 (cLst (aCons (cC .non) (aCons (cC (.bl true)) (aCons (cC (.str "a")) (aCons (cTup aNil) (aCons (cLst aNil) (aCons (cTup (aCons (cC (.str "a")) (aCons (cUn fNeg (cC (.int 1))) aNil))) (aCons (cTup (aCons (cC (.str "A")) (aCons (cC (.int 0)) aNil))) (aCons (cTup (aCons (cC (.str "ab")) (aCons (cC (.int 0)) aNil))) (aCons (cLst (aCons (cC (.str "a")) (aCons (cC (.int 0)) aNil))) (aCons (cTup (aCons (cC (.str "a")) (aCons (cC (.str "0")) aNil))) (aCons (cTup (aCons (cC (.str "a")) (aCons (cC (.bl true)) aNil))) (aCons (cTup (aCons (cC (.str "")) (aCons (cC (.int 0)) aNil))) (aCons (cTup (aCons (cC (.str "a")) aNil)) aNil))))))))))))))) (sSeq (sSet [0] 4 (cBin fAdd (cName 4) (cLst (aCons (cTup (aCons (cC (.str "a")) (aCons (cC (.int 0)) (aCons (cC (.int 0)) aNil)))) (aCons (cTup (aCons (cC (.str "a")) (aCons (cC .non) aNil))) (aCons (cC (.int 7)) (aCons cDct0 (aCons (cTup (aCons (cC (.int 0)) (aCons (cC (.str "a")) aNil))) aNil)))))))) (sSeq (sIf (cTest (cBin (eqF false) (cName 2) (cC (.int 0)))) (sRet (cUn fListA (cName 1))) sNil) (sSeq (sIf (cTest (cBin (eqF false) (cName 2) (cC (.int 1)))) (sRet (cUn fTuple (cLc (iRg1 (aCons (cC (.int 241)) aNil)) [5] ct_L_head_1 cc_L_head_1 ce_L_head_1))) sNil) (sSeq (sIf (cTest (cBin fLt (cName 2) (cC (.int 4)))) (sRet (cBin fAdd (cBin fAdd (cSl (cName 1) oNone (oSome (cName 3))) (cTup (aCons (cBin fIx (cName 4) (cCallM 2 P_L_digit 0 (aCons (cC (.int 18)) aNil))) aNil))) (cSl (cName 1) (oSome (cBin fSub (cBin fAdd (cName 3) (cName 2)) (cC (.int 2)))) oNone))) sNil) (sRet (cName 1)))))))))
def P_L_head (d : D) (ds : List D) : Option RM := runM g_L_head 6 d ds
/-- L_tail: 0 L_pot_here, 1 L_tail_here, 2 L_way, 3 L_at, 4 L_some, 5 L_k -/
def ct_L_tail_1 : GF :=
  (gNm [0, 1, 2, 3, 4] 5)
def cc_L_tail_1 : TF :=
  tYesF
def ce_L_tail_1 : UF :=
  (cUse (cTup (aCons (cC (.str "q")) (aCons (cName 5) (aCons (cC (.int 300)) aNil)))))
def g_L_tail : SF :=
  (sSeq (sSet [0] 2 (cCallM 2 P_L_digit 0 (aCons (cC (.int 8)) aNil))) (sSeq (sSet [0] 3 (cCallM 2 P_L_digit 0 (aCons (cBin fAdd (cUn fLen (cName 1)) (cC (.int 1))) aNil))) (sSeq (sSet [0] 4 (cLst (aCons (cC .non) (aCons (cC (.bl true)) (aCons (cC (.str "abc")) (aCons (cTup aNil) (aCons (cLst aNil) (aCons (cTup (aCons (cC (.str "a")) (aCons (cUn fNeg (cC (.int 1))) (aCons (cC (.int 1)) aNil)))) (aCons (cTup (aCons (cC (.str "A")) (aCons (cC (.int 0)) (aCons (cC (.int 1)) aNil)))) (aCons (cTup (aCons (cC (.str "ab")) (aCons (cC (.int 0)) (aCons (cC (.int 1)) aNil)))) (aCons (cLst (aCons (cC (.str "a")) (aCons (cC (.int 0)) (aCons (cC (.int 1)) aNil)))) (aCons (cTup (aCons (cC (.str "a")) (aCons (cC (.int 0)) (aCons (cC (.int 0)) aNil)))) (aCons (cTup (aCons (cC (.str "a")) (aCons (cC (.int 0)) (aCons (cUn fNeg (cC (.int 1))) aNil)))) aNil))))))))))))) (sSeq (sSet [0] 4 (cBin fAdd (cName 4) (cLst (aCons (cTup (aCons (cC (.str "a")) (aCons (cC (.int 0)) aNil))) (aCons (cTup (aCons (cC (.str "a")) (aCons (cC (.int 0)) (aCons (cC (.bl true)) aNil)))) (aCons (cTup (aCons (cC (.str "a")) (aCons (cC (.bl false)) (aCons (cC (.int 1)) aNil)))) (aCons (cTup (aCons (cC (.str "a")) (aCons (cC (.int 0)) (aCons (cC (.int 1)) (aCons (cC (.int 1)) aNil))))) (aCons (cTup (aCons (cC (.str "a")) (aCons (cC (.str "0")) (aCons (cC (.int 1)) aNil)))) (aCons (cTup (aCons (cC (.int 0)) (aCons (cC (.int 1)) (aCons (cC (.str "a")) aNil)))) (aCons cDct0 aNil)))))))))) (sSeq (sIf (cTest (cBin (eqF false) (cName 2) (cC (.int 0)))) (sRet (cUn fListA (cName 1))) sNil) (sSeq (sIf (cTest (cBin (eqF false) (cName 2) (cC (.int 1)))) (sRet (cUn fTuple (cLc (iRg1 (aCons (cC (.int 241)) aNil)) [5] ct_L_tail_1 cc_L_tail_1 ce_L_tail_1))) sNil) (sSeq (sIf (cTest (cBin fLt (cName 2) (cC (.int 4)))) (sRet (cBin fAdd (cBin fAdd (cSl (cName 1) oNone (oSome (cName 3))) (cTup (aCons (cBin fIx (cName 4) (cCallM 2 P_L_digit 0 (aCons (cC (.int 18)) aNil))) aNil))) (cSl (cName 1) (oSome (cBin fSub (cBin fAdd (cName 3) (cName 2)) (cC (.int 2)))) oNone))) sNil) (sRet (cName 1)))))))))
def P_L_tail (d : D) (ds : List D) : Option RM := runM g_L_tail 6 d ds
/-- is_name: 0 thing, 1 sign -/
def ct_is_name_1 : GF :=
  (gNm [0] 1)
def cc_is_name_1 : TF :=
  tYesF
def ce_is_name_1 : UF :=
  (cUse (cBin (fIn false) (cName 1) (cC (.str "abcdefghijklmnopqrstuvwxyz"))))
def g_is_name : SF :=
  (sSeq (sIf (tOrF (tNotF (cTest (cUn (fIsi "str") (cName 0)))) (tNotF (tChainF fLe fLe (cC (.int 1)) (cUn fLen (cName 0)) (cC (.int 8))))) (sRet (cC (.bl false))) sNil) (sRet (cUn fAll (cLc (iIt (cName 0)) [1] ct_is_name_1 cc_is_name_1 ce_is_name_1))))
def P_is_name (ds : List D) : Option RR := runP g_is_name 2 ds
/-- is_letter: 0 thing -/
def g_is_letter : SF :=
  (sRet (cAndV (cCall 1 P_is_name (aCons (cName 0) aNil)) (cBin (eqF false) (cUn fLen (cName 0)) (cC (.int 1)))))
def P_is_letter (ds : List D) : Option RR := runP g_is_letter 1 ds
/-- is_whole: 0 thing -/
def g_is_whole : SF :=
  (sRet (cAndV (cUn (fIsi "int") (cName 0)) (cAndV (cNotV (cUn (fIsi "bool") (cName 0))) (cBin fGe (cName 0) (cC (.int 0))))))
def P_is_whole (ds : List D) : Option RR := runP g_is_whole 1 ds
/-- is_ticket: 0 thing, 1 letter, 2 number -/
def g_is_ticket : SF :=
  (sSeq (sIf (tOrF (tNotF (cTest (cUn (fIsi "tuple") (cName 0)))) (cTest (cBin (eqF true) (cUn fLen (cName 0)) (cC (.int 2))))) (sRet (cC (.bl false))) sNil) (sSeq (sAsg (cName 0) (gTp 2 (gsCons (gNm [] 1) (gsCons (gNm [] 2) gsNil)))) (sRet (cAndV (cCall 1 P_is_letter (aCons (cName 1) aNil)) (cCall 1 P_is_whole (aCons (cName 2) aNil))))))
def P_is_ticket (ds : List D) : Option RR := runP g_is_ticket 3 ds
/-- is_line: 0 thing, 1 letter, 2 first, 3 step -/
def g_is_line : SF :=
  (sSeq (sIf (tOrF (tNotF (cTest (cUn (fIsi "tuple") (cName 0)))) (cTest (cBin (eqF true) (cUn fLen (cName 0)) (cC (.int 3))))) (sRet (cC (.bl false))) sNil) (sSeq (sAsg (cName 0) (gTp 3 (gsCons (gNm [] 1) (gsCons (gNm [] 2) (gsCons (gNm [] 3) gsNil))))) (sRet (cAndV (cCall 1 P_is_letter (aCons (cName 1) aNil)) (cAndV (cCall 1 P_is_whole (aCons (cName 2) aNil)) (cAndV (cCall 1 P_is_whole (aCons (cName 3) aNil)) (cBin fGt (cName 3) (cC (.int 0)))))))))
def P_is_line (ds : List D) : Option RR := runP g_is_line 4 ds
/-- are_all: 0 thing, 1 judge, 2 one -/
def Phis : Nat → Option (List D → Option RR)
  | 0 => some P_is_ticket
  | 1 => some P_is_line
  | _ => none
def ct_are_all_1 : GF :=
  (gNm [0, 1] 2)
def cc_are_all_1 : TF :=
  tYesF
def ce_are_all_1 : UF :=
  (cUse (cCallF 1 1 Phis (aCons (cName 2) aNil)))
def g_are_all : SF :=
  (sRet (cAndV (cUn (fIsi "tuple") (cName 0)) (cAndV (cBin fLe (cUn fLen (cName 0)) (cC (.int 240))) (cUn fAll (cLc (iIt (cName 0)) [2] ct_are_all_1 cc_are_all_1 ce_are_all_1)))))
def P_are_all (ds : List D) : Option RR := runP g_are_all 3 ds
/-- divisor_of: 0 one, 1 other -/
def wt_divisor_of_1 : TF :=
  (cTest (cBin fGt (cName 1) (cC (.int 0))))
def wb_divisor_of_1 : SF :=
  (sPar [] 0 1 (cName 1) (cBin fMod (cName 0) (cName 1)))
def g_divisor_of : SF :=
  (sSeq (whileG wt_divisor_of_1 wb_divisor_of_1 fuelN) (sRet (cName 0)))
def P_divisor_of (ds : List D) : Option RR := runP g_divisor_of 2 ds
/-- do_meet: 0 one, 1 other -/
def g_do_meet : SF :=
  (sSeq (sIf (cTest (cBin (eqF true) (cBin fIx (cName 0) (cC (.int 0))) (cBin fIx (cName 1) (cC (.int 0))))) (sRet (cC (.bl false))) sNil) (sRet (cBin (eqF false) (cBin fMod (cBin fSub (cBin fIx (cName 1) (cC (.int 1))) (cBin fIx (cName 0) (cC (.int 1)))) (cCall 2 P_divisor_of (aCons (cBin fIx (cName 0) (cC (.int 2))) (aCons (cBin fIx (cName 1) (cC (.int 2))) aNil)))) (cC (.int 0)))))
def P_do_meet (ds : List D) : Option RR := runP g_do_meet 2 ds
/-- is_met: 0 tail, 1 k, 2 other -/
def ct_is_met_1 : GF :=
  (gNm [0, 1] 2)
def cc_is_met_1 : TF :=
  tYesF
def ce_is_met_1 : UF :=
  (cUse (cCall 2 P_do_meet (aCons (cName 2) (aCons (cBin fIx (cName 0) (cName 1)) aNil))))
def g_is_met : SF :=
  (sRet (cUn fAny (cLc (iIt (cSl (cName 0) oNone (oSome (cName 1)))) [2] ct_is_met_1 cc_is_met_1 ce_is_met_1)))
def P_is_met (ds : List D) : Option RR := runP g_is_met 3 ds
/-- turn_of: 0 line, 1 ticket, 2 letter, 3 first, 4 step, 5 own, 6 number, 7 turn, 8 rest -/
def g_turn_of : SF :=
  (sSeq (sAsg (cName 0) (gTp 3 (gsCons (gNm [] 2) (gsCons (gNm [] 3) (gsCons (gNm [] 4) gsNil))))) (sSeq (sAsg (cName 1) (gTp 2 (gsCons (gNm [] 5) (gsCons (gNm [] 6) gsNil)))) (sSeq (sIf (tOrF (cTest (cBin (eqF true) (cName 5) (cName 2))) (cTest (cBin fLt (cName 6) (cName 3)))) (sRet (cC .non)) sNil) (sSeq (sAsg (cBin fDivmod (cBin fSub (cName 6) (cName 3)) (cName 4)) (gTp 2 (gsCons (gNm [] 7) (gsCons (gNm [] 8) gsNil)))) (sRet (cIfE (cTest (cBin (eqF false) (cName 8) (cC (.int 0)))) (cName 7) (cC .non)))))))
def P_turn_of (ds : List D) : Option RR := runP g_turn_of 9 ds
/-- tells: 0 tail, 1 ticket, 2 line -/
def ct_tells_1 : GF :=
  (gNm [0, 1] 2)
def cc_tells_1 : TF :=
  tYesF
def ce_tells_1 : UF :=
  (cUse (cBin (fIsN true) (cCall 2 P_turn_of (aCons (cName 2) (aCons (cName 1) aNil))) (cC .non)))
def g_tells : SF :=
  (sRet (cUn fAny (cLc (iIt (cName 0)) [2] ct_tells_1 cc_tells_1 ce_tells_1)))
def P_tells (ds : List D) : Option RR := runP g_tells 3 ds
/-- tells_twice: 0 head, 1 tail, 2 ticket, 3 k -/
def ct_tells_twice_1 : GF :=
  (gNm [0, 1, 3] 2)
def cc_tells_twice_1 : TF :=
  tYesF
def ce_tells_twice_1 : UF :=
  (cUse (cCall 2 P_tells (aCons (cName 1) (aCons (cName 2) aNil))))
def ct_tells_twice_2 : GF :=
  (gNm [0, 1, 2] 3)
def cc_tells_twice_2 : TF :=
  tYesF
def ce_tells_twice_2 : UF :=
  (cUse (cCall 2 P_is_met (aCons (cName 1) (aCons (cName 3) aNil))))
def g_tells_twice : SF :=
  (sSeq (sIf (tOrF (cTest (cBin fLt (cUn fLenSet (cName 0)) (cUn fLen (cName 0)))) (cTest (cUn fAny (cLc (iIt (cName 0)) [2] ct_tells_twice_1 cc_tells_twice_1 ce_tells_twice_1)))) (sRet (cC (.bl true))) sNil) (sRet (cUn fAny (cLc (iRg1 (aCons (cUn fLen (cName 1)) aNil)) [3] ct_tells_twice_2 cc_tells_twice_2 ce_tells_twice_2))))
def P_tells_twice (ds : List D) : Option RR := runP g_tells_twice 4 ds
/-- fault_of: 0 thing, 1 head, 2 tail -/
def g_fault_of : SF :=
  (sSeq (sIf (tOrF (tNotF (cTest (cUn (fIsi "tuple") (cName 0)))) (cTest (cBin (eqF true) (cUn fLen (cName 0)) (cC (.int 2))))) (sRet (cC (.str "form"))) sNil) (sSeq (sAsg (cName 0) (gTp 2 (gsCons (gNm [] 1) (gsCons (gNm [] 2) gsNil)))) (sSeq (sIf (tNotF (cTest (cCall 2 P_are_all (aCons (cName 1) (aCons (cC (.fn 0)) aNil))))) (sRet (cC (.str "head"))) sNil) (sSeq (sIf (tNotF (cTest (cCall 2 P_are_all (aCons (cName 2) (aCons (cC (.fn 1)) aNil))))) (sRet (cC (.str "tail"))) sNil) (sRet (cIfE (cTest (cCall 2 P_tells_twice (aCons (cName 1) (aCons (cName 2) aNil)))) (cC (.str "twice")) (cC .non)))))))
def P_fault_of (ds : List D) : Option RR := runP g_fault_of 3 ds
/-- want_form: 0 thing, 1 what -/
def g_want_form : SF :=
  (sSeq (sSet [] 1 (cCall 1 P_fault_of (aCons (cName 0) aNil))) (sIf (cTest (cBin (fIsN true) (cName 1) (cC .non))) (sRaiseF 0 1 (aCons (cName 1) aNil)) sNil))
def P_want_form (ds : List D) : Option RR := runP g_want_form 2 ds
/-- told_at: 0 line, 1 turn, 2 letter, 3 first, 4 step -/
def g_told_at : SF :=
  (sSeq (sIf (tNotF (cTest (cCall 1 P_is_whole (aCons (cName 1) aNil)))) (sRaise 1) sNil) (sSeq (sAsg (cName 0) (gTp 3 (gsCons (gNm [] 2) (gsCons (gNm [] 3) (gsCons (gNm [] 4) gsNil))))) (sRet (cTup (aCons (cName 2) (aCons (cBin fAdd (cName 3) (cBin fMul (cName 1) (cName 4))) aNil))))))
def P_told_at (ds : List D) : Option RR := runP g_told_at 5 ds
/-- standing: 0 form, 1 place, 2 head, 3 tail, 4 turn, 5 at -/
def g_standing : SF :=
  (sSeq (sAsg (cName 0) (gTp 2 (gsCons (gNm [] 2) (gsCons (gNm [] 3) gsNil)))) (sSeq (sIf (cTest (cBin fLt (cName 1) (cUn fLen (cName 2)))) (sRet (cBin fIx (cName 2) (cName 1))) sNil) (sSeq (sAsg (cBin fDivmod (cBin fSub (cName 1) (cUn fLen (cName 2))) (cUn fLen (cName 3))) (gTp 2 (gsCons (gNm [] 4) (gsCons (gNm [] 5) gsNil)))) (sRet (cCall 2 P_told_at (aCons (cBin fIx (cName 3) (cName 5)) (aCons (cName 4) aNil)))))))
def P_standing (ds : List D) : Option RR := runP g_standing 6 ds
/-- has_place: 0 form, 1 place, 2 head, 3 tail -/
def g_has_place : SF :=
  (sSeq (sAsg (cName 0) (gTp 2 (gsCons (gNm [] 2) (gsCons (gNm [] 3) gsNil)))) (sRet (cAndV (cCall 1 P_is_whole (aCons (cName 1) aNil)) (cOrV (cBin (eqF true) (cName 3) (cTup aNil)) (cBin fLt (cName 1) (cUn fLen (cName 2)))))))
def P_has_place (ds : List D) : Option RR := runP g_has_place 4 ds
/-- ticket_at: 0 form, 1 place -/
def g_ticket_at : SF :=
  (sSeq (sExpr (cCall 1 P_want_form (aCons (cName 0) aNil))) (sSeq (sIf (tNotF (cTest (cCall 2 P_has_place (aCons (cName 0) (aCons (cName 1) aNil))))) (sRaise 2) sNil) (sRet (cCall 2 P_standing (aCons (cName 0) (aCons (cName 1) aNil))))))
def P_ticket_at (ds : List D) : Option RR := runP g_ticket_at 2 ds
/-- L_told: 0 L_thing, 1 L_place, 2 L_found, 3 e -/
def tb_L_told_1 : SF :=
  (sIf (cTest (cBin (fIsN false) (cName 1) (cC .non))) (sExpr (cCall 1 P_want_form (aCons (cName 0) aNil))) (sExpr (cCall 2 P_ticket_at (aCons (cName 0) (aCons (cName 1) aNil)))))
def ts_L_told_1 : SF :=
  (sSet [] 2 (cC .non))
def ts_L_told_2 : SF :=
  (sSeq (sSet [] 2 (cC (.str "other"))) (sIf (tAndF (cTest (cIsE 3 mki_NoForm)) (cTest (cIsE 3 mki_ValueError))) (sSet [] 2 (cXf 3 mf_what)) sNil))
def g_L_told : SF :=
  (sSeq (sSet [] 2 (cC .non)) (sSeq (sTryM [(none, mxm_NoPlace, ts_L_told_1), (some 3, mxm_RowsError, ts_L_told_2)] tb_L_told_1) (sRet (cName 2))))
def P_L_told (ds : List D) : Option RR := runP g_L_told 4 ds
/-- is_form: 0 thing -/
def g_is_form : SF :=
  (sRet (cBin (fIsN false) (cCall 1 P_fault_of (aCons (cName 0) aNil)) (cC .non)))
def P_is_form (ds : List D) : Option RR := runP g_is_form 1 ds
/-- law: 0 L_script, 1 L_k, 2 L_pot_here, 3 L_good_here, 4 L_head_here, 5 L_tail_here, 6 L_bent, 7 L_whole_here, 8 L_thing, 9 L_due_here, 10 L_kept, 11 L_place -/
def ft_law_1 : GF :=
  (gNm [] 11)
def fb_law_1 : SF :=
  (sIf (cTest (cBin (eqF true) (cCall 2 P_L_told (aCons (cName 8) (aCons (cName 11) aNil))) (cName 9))) (sRet (cC (.bl false))) sNil)
def ft_law_2 : GF :=
  (gNm [] 1)
def fb_law_2 : SF :=
  (sSeq (sSet [] 2 (cCall 2 P_L_pot (aCons (cName 0) (aCons (cName 1) aNil)))) (sSeq (sSet [] 3 (cCallM 1 P_L_good 2 aNil)) (sSeq (sPar [] 4 5 (cSl (cBin fIx (cName 3) (cC (.int 0))) oNone (oSome (cC (.int 4)))) (cSl (cBin fIx (cName 3) (cC (.int 1))) oNone (oSome (cC (.int 5))))) (sSeq (sSet [] 6 (cCallM 3 P_L_twice 2 (aCons (cName 4) (aCons (cName 5) aNil)))) (sSeq (sSet [] 7 (cTup (aCons (cCallM 2 P_L_head 2 (aCons (cBin fIx (cName 6) (cC (.int 0))) aNil)) (aCons (cCallM 2 P_L_tail 2 (aCons (cBin fIx (cName 6) (cC (.int 1))) aNil)) aNil)))) (sSeq (sSet [] 8 (cCallM 3 P_L_whole 2 (aCons (cBin fIx (cName 7) (cC (.int 0))) (aCons (cBin fIx (cName 7) (cC (.int 1))) aNil)))) (sSeq (sSet [] 9 (cCall 4 P_L_due (aCons (cName 8) (aCons (cName 7) (aCons (cName 6) (aCons (cBin (eqF true) (cName 6) (cTup (aCons (cName 4) (aCons (cName 5) aNil)))) aNil)))))) (sSeq (sSet [] 10 (cUn fReprE (cName 8))) (sSeq (sFor (iIt (cLst (aCons (cC .non) (aCons (cC (.int 0)) (aCons (cUn fNeg (cC (.int 1))) (aCons (cBin fPow (cC (.int 10)) (cC (.int 9))) (aCons (cC (.str "0")) (aCons (cC .non) aNil)))))))) ft_law_1 fb_law_1) (sIf (tOrF (cTest (cBin (eqF true) (cUn fReprE (cCall 1 P_is_form (aCons (cName 8) aNil))) (cUn fReprE (cBin (fIsN false) (cName 9) (cC .non))))) (cTest (cBin (eqF true) (cUn fReprE (cName 8)) (cName 10)))) (sRet (cC (.bl false))) sNil))))))))))
def g_law : SF :=
  (sSeq (sFor (iRg1 (aCons (cBin fMax (cC (.int 1)) (cBin fMin (cUn fLen (cName 0)) (cC (.int 8)))) aNil)) ft_law_2 fb_law_2) (sRet (cC (.bl true))))
def P_law (ds : List D) : Option RR := runP g_law 12 ds
end K16
namespace K16
open PySem PySem.Spec PyProof.Rows L2 Tk
def topS (i : Nat) : Stmt := PySem.Challenge.pw_ticketrows_k16_what_is_told_first.main.body.getD i (.Pass ⟨0, 0, 0, 0⟩)
/-- where the classes lie -/
structure Cl where
  none_ : Nat
  NoForm : Addr
  RowsError : Addr
  NoNumber : Addr
  NoPlace : Addr
  f_is_ticket : Addr
  f_is_line : Addr
def clsT (cc : Cl) : Nat → Option (Addr × List Str)
  | 0 => some (cc.NoForm, ["what"])
  | 1 => some (cc.NoNumber, [])
  | 2 => some (cc.NoPlace, [])
  | _ => none
def fnT (cc : Cl) : Nat → Option Addr
  | 0 => some cc.f_is_ticket
  | 1 => some cc.f_is_line
  | _ => none
abbrev GG (K : PySem.W.Frag) (cc : Cl) : Tb := ⟨K, clsT cc, fnT cc, none⟩
abbrev XR0 : XW := XRx
structure Cn (mg : Str → Option Value) : Prop where
  none_ : True
  c_LONGEST_NAME : ∃ t, mg "LONGEST_NAME" = some (.int 8 t)
  c_SMALL : ∃ t, mg "SMALL" = some (.str "abcdefghijklmnopqrstuvwxyz" t)
  c_MOST : ∃ t, mg "MOST" = some (.int 240 t)
structure Ce (K : PySem.W.Frag) (mg : Str → Option Value) (cc : Cl) : Prop where
  none_ : True
  g_NoForm : mg "NoForm" = some (.ref cc.NoForm)
  g_RowsError : mg "RowsError" = some (.ref cc.RowsError)
  g_NoNumber : mg "NoNumber" = some (.ref cc.NoNumber)
  g_NoPlace : mg "NoPlace" = some (.ref cc.NoPlace)
  k_NoForm : PySem.W.keepIn K (.ref cc.NoForm) = true
  o_NoForm : OexC K cc.NoForm
  n_NoForm_what : PySem.W.findIn K (.ref cc.NoForm) "what" = some none
  sg_RowsError : PySem.W.specialIn K (.ref cc.RowsError) "__getattribute__" = some (some (.builtin "type.__getattribute__"))
  rd_RowsError : PySem.W.readsIn K cc.RowsError (.type "type") = true
  fv_RowsError : PySem.W.findCls K (.ref cc.RowsError) (.type "type") "__init__" = some (.val (.builtin "ValueError.__init__"))
  eg_NoForm : PySem.W.findIn K (.ref cc.NoForm) "__getattribute__" = some (some (.builtin "BaseException.__getattribute__"))
  ek_NoForm : PySem.W.findIn K (.ref cc.NoForm) "__getattr__" = some none
  ed_NoForm : PySem.W.hasDictIn K cc.NoForm = true
  b_NoForm : PySem.W.subIn K (.ref cc.NoForm) (.type "BaseException") = some true
  t_NoForm : PySem.W.typeIn K (.ref cc.NoForm) = some (.type "type")
  ea_NoForm : PySem.W.findIn K (.ref cc.NoForm) "__class__" = some (some (.builtin "object.__class__"))
  em_NoForm : PySem.W.mroIn K cc.NoForm (.type "object") = some true
  xm_NoForm_NoPlace : PySem.W.exmOne K (.ref cc.NoForm) (.ref cc.NoPlace) = some false
  xm_NoForm_RowsError : PySem.W.exmOne K (.ref cc.NoForm) (.ref cc.RowsError) = some true
  ki_NoForm_NoForm : PySem.W.kitOne K (.ref cc.NoForm) (.ref cc.NoForm) = some true
  ki_NoForm_ValueError : PySem.W.kitOne K (.ref cc.NoForm) (.type "ValueError") = some true
  k_NoNumber : PySem.W.keepIn K (.ref cc.NoNumber) = true
  x_NoNumber : PySem.W.excIn K cc.NoNumber [.type "ValueError", .type "Exception", .type "BaseException", .type "object"] "ValueError.__new__" = true
  b_NoNumber : PySem.W.subIn K (.ref cc.NoNumber) (.type "BaseException") = some true
  t_NoNumber : PySem.W.typeIn K (.ref cc.NoNumber) = some (.type "type")
  eg_NoNumber : PySem.W.findIn K (.ref cc.NoNumber) "__getattribute__" = some (some (.builtin "BaseException.__getattribute__"))
  ek_NoNumber : PySem.W.findIn K (.ref cc.NoNumber) "__getattr__" = some none
  ed_NoNumber : PySem.W.hasDictIn K cc.NoNumber = true
  ea_NoNumber : PySem.W.findIn K (.ref cc.NoNumber) "__class__" = some (some (.builtin "object.__class__"))
  em_NoNumber : PySem.W.mroIn K cc.NoNumber (.type "object") = some true
  xm_NoNumber_NoPlace : PySem.W.exmOne K (.ref cc.NoNumber) (.ref cc.NoPlace) = some false
  xm_NoNumber_RowsError : PySem.W.exmOne K (.ref cc.NoNumber) (.ref cc.RowsError) = some true
  ki_NoNumber_NoForm : PySem.W.kitOne K (.ref cc.NoNumber) (.ref cc.NoForm) = some false
  ki_NoNumber_ValueError : PySem.W.kitOne K (.ref cc.NoNumber) (.type "ValueError") = some true
  k_NoPlace : PySem.W.keepIn K (.ref cc.NoPlace) = true
  x_NoPlace : PySem.W.excIn K cc.NoPlace [.type "ValueError", .type "Exception", .type "BaseException", .type "object"] "ValueError.__new__" = true
  b_NoPlace : PySem.W.subIn K (.ref cc.NoPlace) (.type "BaseException") = some true
  t_NoPlace : PySem.W.typeIn K (.ref cc.NoPlace) = some (.type "type")
  eg_NoPlace : PySem.W.findIn K (.ref cc.NoPlace) "__getattribute__" = some (some (.builtin "BaseException.__getattribute__"))
  ek_NoPlace : PySem.W.findIn K (.ref cc.NoPlace) "__getattr__" = some none
  ed_NoPlace : PySem.W.hasDictIn K cc.NoPlace = true
  ea_NoPlace : PySem.W.findIn K (.ref cc.NoPlace) "__class__" = some (some (.builtin "object.__class__"))
  em_NoPlace : PySem.W.mroIn K cc.NoPlace (.type "object") = some true
  xm_NoPlace_NoPlace : PySem.W.exmOne K (.ref cc.NoPlace) (.ref cc.NoPlace) = some true
  xm_NoPlace_RowsError : PySem.W.exmOne K (.ref cc.NoPlace) (.ref cc.RowsError) = some true
  ki_NoPlace_NoForm : PySem.W.kitOne K (.ref cc.NoPlace) (.ref cc.NoForm) = some false
  ki_NoPlace_ValueError : PySem.W.kitOne K (.ref cc.NoPlace) (.type "ValueError") = some true
  en_ : PySem.W.specialIn K (.builtin "object.__class__") "__get__" = some (some (.builtin "getset_descriptor.__get__"))
  et_ : PySem.W.takesIn K (.builtin "object.__class__") = some true
theorem xm_NoPlace {K : PySem.W.Frag} {mg : Str → Option Value} {cc : Cl} (ce : Ce K mg cc) : ∀ k C ns b, (GG K cc).cls k = some (C, ns) → mxm_NoPlace k = some b → PySem.W.exmOne K (.ref C) (.ref cc.NoPlace) = some b
  | 0, C, ns, b, h1, h2 => by
    cases h1
    cases h2
    exact ce.xm_NoForm_NoPlace
  | 1, C, ns, b, h1, h2 => by
    cases h1
    cases h2
    exact ce.xm_NoNumber_NoPlace
  | 2, C, ns, b, h1, h2 => by
    cases h1
    cases h2
    exact ce.xm_NoPlace_NoPlace
  | n + 3, C, ns, b, _, h2 => by cases h2
theorem xm_RowsError {K : PySem.W.Frag} {mg : Str → Option Value} {cc : Cl} (ce : Ce K mg cc) : ∀ k C ns b, (GG K cc).cls k = some (C, ns) → mxm_RowsError k = some b → PySem.W.exmOne K (.ref C) (.ref cc.RowsError) = some b
  | 0, C, ns, b, h1, h2 => by
    cases h1
    cases h2
    exact ce.xm_NoForm_RowsError
  | 1, C, ns, b, h1, h2 => by
    cases h1
    cases h2
    exact ce.xm_NoNumber_RowsError
  | 2, C, ns, b, h1, h2 => by
    cases h1
    cases h2
    exact ce.xm_NoPlace_RowsError
  | n + 3, C, ns, b, _, h2 => by cases h2
theorem xc_all {K : PySem.W.Frag} {mg : Str → Option Value} {cc : Cl} (ce : Ce K mg cc) : ∀ k C ns, k < 3 → (GG K cc).cls k = some (C, ns) → ExcC K C
  | 0, C, ns, _, h1 => by
    cases h1
    exact ⟨ce.eg_NoForm, ce.ek_NoForm, ce.b_NoForm, ce.ed_NoForm, ce.ea_NoForm, ce.en_, ce.et_, ce.em_NoForm⟩
  | 1, C, ns, _, h1 => by
    cases h1
    exact ⟨ce.eg_NoNumber, ce.ek_NoNumber, ce.b_NoNumber, ce.ed_NoNumber, ce.ea_NoNumber, ce.en_, ce.et_, ce.em_NoNumber⟩
  | 2, C, ns, _, h1 => by
    cases h1
    exact ⟨ce.eg_NoPlace, ce.ek_NoPlace, ce.b_NoPlace, ce.ed_NoPlace, ce.ea_NoPlace, ce.en_, ce.et_, ce.em_NoPlace⟩
  | n + 3, C, ns, h1, _ => by omega
theorem kl_NoForm : ∀ k b, mki_NoForm k = some b → k < 3
  | 0, _, _ => by decide
  | 1, _, _ => by decide
  | 2, _, _ => by decide
  | n + 3, b, h => by cases h
theorem ki_NoForm {K : PySem.W.Frag} {mg : Str → Option Value} {cc : Cl} (ce : Ce K mg cc) : ∀ k C ns b, (GG K cc).cls k = some (C, ns) → mki_NoForm k = some b → PySem.W.kitOne K (.ref C) (.ref cc.NoForm) = some b
  | 0, C, ns, b, h1, h2 => by
    cases h1
    cases h2
    exact ce.ki_NoForm_NoForm
  | 1, C, ns, b, h1, h2 => by
    cases h1
    cases h2
    exact ce.ki_NoNumber_NoForm
  | 2, C, ns, b, h1, h2 => by
    cases h1
    cases h2
    exact ce.ki_NoPlace_NoForm
  | n + 3, C, ns, b, _, h2 => by cases h2
theorem kl_ValueError : ∀ k b, mki_ValueError k = some b → k < 3
  | 0, _, _ => by decide
  | 1, _, _ => by decide
  | 2, _, _ => by decide
  | n + 3, b, h => by cases h
theorem ki_ValueError {K : PySem.W.Frag} {mg : Str → Option Value} {cc : Cl} (ce : Ce K mg cc) : ∀ k C ns b, (GG K cc).cls k = some (C, ns) → mki_ValueError k = some b → PySem.W.kitOne K (.ref C) (.type "ValueError") = some b
  | 0, C, ns, b, h1, h2 => by
    cases h1
    cases h2
    exact ce.ki_NoForm_ValueError
  | 1, C, ns, b, h1, h2 => by
    cases h1
    cases h2
    exact ce.ki_NoNumber_ValueError
  | 2, C, ns, b, h1, h2 => by
    cases h1
    cases h2
    exact ce.ki_NoPlace_ValueError
  | n + 3, C, ns, b, _, h2 => by cases h2
theorem xf_what {K : PySem.W.Frag} {mg : Str → Option Value} {cc : Cl} (ce : Ce K mg cc) : ∀ k j, mf_what k = some j → ∃ C ns, (GG K cc).cls k = some (C, ns) ∧ XfC (GG K cc).K C ∧ PySem.W.findIn (GG K cc).K (.ref C) "what" = some none ∧ ns.Nodup ∧ ns[j]? = some "what"
  | 0, j, h => by
    cases h
    exact ⟨_, _, rfl, ⟨ce.eg_NoForm, ce.ek_NoForm, ce.b_NoForm, ce.ed_NoForm⟩, ce.n_NoForm_what, by decide, rfl⟩
  | 1, j, h => by cases h
  | 2, j, h => by cases h
  | n + 3, j, h => by cases h
structure Bn (mg : Str → Option Value) : Prop where
  b_len : mg "len" = none
  b_abs : mg "abs" = none
  b_max : mg "max" = none
  b_divmod : mg "divmod" = none
  b_list : mg "list" = none
  b_range : mg "range" = none
  b_int : mg "int" = none
  b_min : mg "min" = none
  b_tuple : mg "tuple" = none
  b_repr : mg "repr" = none
  b_isinstance : mg "isinstance" = none
  b_str : mg "str" = none
  b_all : mg "all" = none
  b_bool : mg "bool" = none
  b_any : mg "any" = none
  b_set : mg "set" = none
  b_ValueError : mg "ValueError" = none
abbrev si_NoForm : Stmt := inClass (topS 4) 0
theorem sci_NoForm : FnScope ["self", "what"] ["self", "what"] (defScope si_NoForm) := ⟨rfl, rfl, rfl, by decide +kernel, rfl, by decide +kernel, by decide +kernel⟩
theorem vi_NoForm_0 {X : Cx} {pos : Pos} (hN : X.N = (["self", "what"] : List Str)) (h : X.env.scope = defScope si_NoForm) : PE X (.Name "self" pos) (tVar 0) := pe_var (by rw [hN]; rfl) (.inl (by rw [h]; decide +kernel))
theorem vi_NoForm_1 {X : Cx} {pos : Pos} (hN : X.N = (["self", "what"] : List Str)) (h : X.env.scope = defScope si_NoForm) : PE X (.Name "what" pos) (tVar 1) := pe_var (by rw [hN]; rfl) (.inl (by rw [h]; decide +kernel))
theorem gi_NoForm {X : Cx} (h : X.env.scope = defScope si_NoForm) : Gl X "RowsError" := by unfold Gl PySem.Env.kindOf; rw [h]; decide +kernel
theorem xn_NoForm {P : Program} {w : World} {K : PySem.W.Frag} {mg : Str → Option Value} {base : Heap} {cc : Cl} (ce : Ce K mg cc) {fi : Addr} {od an : Option Addr} {sl : Array (Option Value)} {oc kV dc pm cd ct : Value} (lk : K.lookup fi = some ⟨oc, od, .func (PySem.W.fnOf "__init__" "NoForm.__init__" (defArgs si_NoForm) (defBody si_NoForm) (defScope si_NoForm) .none kV dc pm an cd ct), sl⟩) (hcd : PySem.W.codeIn K cd "NoForm.__init__" = true) : FnOk P w K mg base (L2.CX P w) 1 fi (PySem.W.fnOf "__init__" "NoForm.__init__" (defArgs si_NoForm) (defBody si_NoForm) (defScope si_NoForm) .none kV dc pm an cd ct) ["self", "what"] (spI cc.NoForm ["what"]) :=
  fn_of (k := 0) lk hcd sci_NoForm (fun _ _ _ _ h => h.len) fun A outer s H vs Q E hr h => init1 (D := ⟨fun _ _ => True, fun _ _ => True, fun _ _ => True, fun _ _ => True⟩) ce.o_NoForm ce.n_NoForm_what (ps_expr (pe_clsInit (gi_NoForm rfl) ce.g_RowsError ce.sg_RowsError ce.rd_RowsError ce.fv_RowsError (pa_cons (vi_NoForm_0 rfl rfl) (pa_cons pe_str pa_nil (by rfl)) (by rfl)))) (ps_ost (vi_NoForm_0 rfl rfl) (vi_NoForm_1 rfl rfl)) h rfl
abbrev s_L_pot : Stmt := topS 30
abbrev N_L_pot : List Str := ["_law_script", "_law_k", "_law_cell"]
theorem sc_L_pot : FnScope N_L_pot ["_law_script", "_law_k"] (defScope s_L_pot) := ⟨rfl, rfl, rfl, by decide +kernel, rfl, by decide +kernel, by decide +kernel⟩
theorem kl_L_pot_0 {X : Cx} (h : X.env.scope = defScope s_L_pot) : X.env.scope.names.lookup ("_law_script" : Str) = some .local := by rw [h]; decide +kernel
theorem nv_L_pot_0 {X : Cx} {pos : Pos} (hN : X.N = N_L_pot) (h : X.env.scope = defScope s_L_pot) : PE X (.Name "_law_script" pos) (tVar 0) := pe_var (by rw [hN]; rfl) (.inl (kl_L_pot_0 h))
theorem kl_L_pot_1 {X : Cx} (h : X.env.scope = defScope s_L_pot) : X.env.scope.names.lookup ("_law_k" : Str) = some .local := by rw [h]; decide +kernel
theorem nv_L_pot_1 {X : Cx} {pos : Pos} (hN : X.N = N_L_pot) (h : X.env.scope = defScope s_L_pot) : PE X (.Name "_law_k" pos) (tVar 1) := pe_var (by rw [hN]; rfl) (.inl (kl_L_pot_1 h))
theorem kl_L_pot_2 {X : Cx} (h : X.env.scope = defScope s_L_pot) : X.env.scope.names.lookup ("_law_cell" : Str) = some .local := by rw [h]; decide +kernel
theorem lc_L_pot_2 {X : Cx} (h : X.env.scope = defScope s_L_pot) : Loc X.env.scope "_law_cell" := .inl (kl_L_pot_2 h)
theorem nv_L_pot_2 {X : Cx} {pos : Pos} (hN : X.N = N_L_pot) (h : X.env.scope = defScope s_L_pot) : PE X (.Name "_law_cell" pos) (tVar 2) := pe_var (by rw [hN]; rfl) (.inl (kl_L_pot_2 h))
theorem gl_L_pot_abs {X : Cx} (h : X.env.scope = defScope s_L_pot) : Gl X "abs" := by unfold Gl PySem.Env.kindOf; rw [h]; decide +kernel
theorem gl_L_pot_len {X : Cx} (h : X.env.scope = defScope s_L_pot) : Gl X "len" := by unfold Gl PySem.Env.kindOf; rw [h]; decide +kernel
theorem gl_L_pot_max {X : Cx} (h : X.env.scope = defScope s_L_pot) : Gl X "max" := by unfold Gl PySem.Env.kindOf; rw [h]; decide +kernel
theorem der_L_pot {P : Program} {w : World} {K : PySem.W.Frag} {mg : Str → Option Value} {base : Heap} {cc : Cl} (bn : Bn mg) (cn : Cn mg) (ce : Ce K mg cc)  {f : Addr} (cdv : Value) (A : Around) (outer : List PySem.Env) (s : Shared) (H : Hp) (E : XK) (hr : Room 0 (A.deeper (envOfC "_law_pot" (defScope s_L_pot) s.heap.objs.size f cdv))) (hg : A.guards = some []) :
    PSs (cxOf (L2.CX P w) P w K mg base N_L_pot "_law_pot" (defScope s_L_pot) f cdv A outer s H E) (defBody s_L_pot) (tEx (GG K cc) XR0 (fun c d _ H => E c d H) [] g_L_pot) := by
  have B : Bx (GG K cc) (fun c d _ H => E c d H) 0 (cxOf (L2.CX P w) P w K mg base N_L_pot "_law_pot" (defScope s_L_pot) f cdv A outer s H E) := Bx.of rfl sc_L_pot.nd hr hg
  unfold g_L_pot
  exact (es_cons (es_set (i := 2) B.nd rfl (lc_L_pot_2 rfl) ev_int) (es_cons (es_if (et_cmp op_lt o_lt (ev_name (nv_L_pot_1 rfl rfl)) (ev_callB1 call_lenAll o_len (gl_L_pot_len rfl) bn.b_len (by decide +kernel) (ev_name (nv_L_pot_0 rfl rfl))) (nomark _)) (es_one (es_set (i := 2) B.nd rfl (lc_L_pot_2 rfl) (ev_ix ix_seq o_ix (ev_name (nv_L_pot_0 rfl rfl)) (ev_name (nv_L_pot_1 rfl rfl)) (fun _ _ => rfl)))) es_nil) (es_one (es_ret (ev_lst (ea_cons (ev_callB2 (call_max2 B.calm) o_max (gl_L_pot_max rfl) bn.b_max (by decide +kernel) ev_int (ev_op op_sub o_sub (ev_callB1 call_abs o_abs (gl_L_pot_abs rfl) bn.b_abs (by decide +kernel) (ev_name (nv_L_pot_2 rfl rfl))) (ev_op op_pow o_pow ev_int ev_int))) (ea_cons (ev_op op_mod o_mod (ev_op op_addAll o_add (ev_op op_addAll o_add (ev_op op_mulW o_mul (ev_op op_mod o_mod (ev_callB1 call_abs o_abs (gl_L_pot_abs rfl) bn.b_abs (by decide +kernel) (ev_name (nv_L_pot_2 rfl rfl))) ev_int) ev_int) (ev_op op_mulW o_mul ev_int (ev_name (nv_L_pot_1 rfl rfl)))) ev_int) ev_int) ea_nil)))))))
abbrev s_L_digit : Stmt := topS 31
abbrev N_L_digit : List Str := ["_law_pot_here", "_law_many", "_law_digit_here"]
theorem sc_L_digit : FnScope N_L_digit ["_law_pot_here", "_law_many"] (defScope s_L_digit) := ⟨rfl, rfl, rfl, by decide +kernel, rfl, by decide +kernel, by decide +kernel⟩
theorem kl_L_digit_0 {X : Cx} (h : X.env.scope = defScope s_L_digit) : X.env.scope.names.lookup ("_law_pot_here" : Str) = some .local := by rw [h]; decide +kernel
theorem nv_L_digit_0 {X : Cx} {pos : Pos} (hN : X.N = N_L_digit) (h : X.env.scope = defScope s_L_digit) : PE X (.Name "_law_pot_here" pos) (tVar 0) := pe_var (by rw [hN]; rfl) (.inl (kl_L_digit_0 h))
theorem kl_L_digit_1 {X : Cx} (h : X.env.scope = defScope s_L_digit) : X.env.scope.names.lookup ("_law_many" : Str) = some .local := by rw [h]; decide +kernel
theorem nv_L_digit_1 {X : Cx} {pos : Pos} (hN : X.N = N_L_digit) (h : X.env.scope = defScope s_L_digit) : PE X (.Name "_law_many" pos) (tVar 1) := pe_var (by rw [hN]; rfl) (.inl (kl_L_digit_1 h))
theorem kl_L_digit_2 {X : Cx} (h : X.env.scope = defScope s_L_digit) : X.env.scope.names.lookup ("_law_digit_here" : Str) = some .local := by rw [h]; decide +kernel
theorem lc_L_digit_2 {X : Cx} (h : X.env.scope = defScope s_L_digit) : Loc X.env.scope "_law_digit_here" := .inl (kl_L_digit_2 h)
theorem nv_L_digit_2 {X : Cx} {pos : Pos} (hN : X.N = N_L_digit) (h : X.env.scope = defScope s_L_digit) : PE X (.Name "_law_digit_here" pos) (tVar 2) := pe_var (by rw [hN]; rfl) (.inl (kl_L_digit_2 h))
theorem gl_L_digit_divmod {X : Cx} (h : X.env.scope = defScope s_L_digit) : Gl X "divmod" := by unfold Gl PySem.Env.kindOf; rw [h]; decide +kernel
theorem der_L_digit {P : Program} {w : World} {K : PySem.W.Frag} {mg : Str → Option Value} {base : Heap} {cc : Cl} (bn : Bn mg) (cn : Cn mg) (ce : Ce K mg cc)  {f : Addr} (cdv : Value) (A : Around) (outer : List PySem.Env) (s : Shared) (H : Hp) (E : XK) (hr : Room 0 (A.deeper (envOfC "_law_digit" (defScope s_L_digit) s.heap.objs.size f cdv))) (hg : A.guards = some []) :
    PSs (cxOf (L2.CX P w) P w K mg base N_L_digit "_law_digit" (defScope s_L_digit) f cdv A outer s H E) (defBody s_L_digit) (tEx (GG K cc) XR0 (fun c d _ H => E c d H) [0] g_L_digit) := by
  have B : Bx (GG K cc) (fun c d _ H => E c d H) 0 (cxOf (L2.CX P w) P w K mg base N_L_digit "_law_digit" (defScope s_L_digit) f cdv A outer s H E) := Bx.of rfl sc_L_digit.nd hr hg
  unfold g_L_digit
  exact (es_cons (es_if (et_cmp op_gt o_gt (ev_ix ix_seq o_ix (ev_name (nv_L_digit_0 rfl rfl)) ev_int (fun _ _ => rfl)) ev_int (nomark _)) (es_cons (es_asg (ev_callB2 call_divmodF o_divmod (gl_L_digit_divmod rfl) bn.b_divmod (by decide +kernel) (ev_ix ix_seq o_ix (ev_name (nv_L_digit_0 rfl rfl)) ev_int (fun _ _ => rfl)) (ev_name (nv_L_digit_1 rfl rfl))) (eg_tup B.calm B.kk (egs_cons (eg_sub (nv_L_digit_0 rfl rfl) ev_int) (egs_cons (eg_name (pg_name (i := 2) B.nd rfl (lc_L_digit_2 rfl))) egs_nil)))) (es_one (es_ret (ev_name (nv_L_digit_2 rfl rfl))))) es_nil) (es_cons (es_asg (ev_op op_mod o_mod (ev_op op_addAll o_add (ev_op op_mulW o_mul (ev_ix ix_seq o_ix (ev_name (nv_L_digit_0 rfl rfl)) ev_int (fun _ _ => rfl)) ev_int) ev_int) ev_int) (eg_sub (nv_L_digit_0 rfl rfl) ev_int)) (es_one (es_ret (ev_op op_mod o_mod (ev_op op_fdivW o_div (ev_op op_mod o_mod (ev_op op_mulW o_mul (ev_ix ix_seq o_ix (ev_name (nv_L_digit_0 rfl rfl)) ev_int (fun _ _ => rfl)) (ev_ix ix_seq o_ix (ev_name (nv_L_digit_0 rfl rfl)) ev_int (fun _ _ => rfl))) ev_int) ev_int) (ev_name (nv_L_digit_1 rfl rfl)))))))
abbrev s_L_mixed : Stmt := topS 34
abbrev N_L_mixed : List Str := ["_law_pot_here", "_law_some", "_law_left", "_law_k"]
theorem sc_L_mixed : FnScope N_L_mixed ["_law_pot_here", "_law_some"] (defScope s_L_mixed) := ⟨rfl, rfl, rfl, by decide +kernel, rfl, by decide +kernel, by decide +kernel⟩
theorem kl_L_mixed_1 {X : Cx} (h : X.env.scope = defScope s_L_mixed) : X.env.scope.names.lookup ("_law_some" : Str) = some .local := by rw [h]; decide +kernel
theorem nv_L_mixed_1 {X : Cx} {pos : Pos} (hN : X.N = N_L_mixed) (h : X.env.scope = defScope s_L_mixed) : PE X (.Name "_law_some" pos) (tVar 1) := pe_var (by rw [hN]; rfl) (.inl (kl_L_mixed_1 h))
theorem kl_L_mixed_2 {X : Cx} (h : X.env.scope = defScope s_L_mixed) : X.env.scope.names.lookup ("_law_left" : Str) = some .cell := by rw [h]; decide +kernel
theorem lc_L_mixed_2 {X : Cx} (h : X.env.scope = defScope s_L_mixed) : Loc X.env.scope "_law_left" := .inr (kl_L_mixed_2 h)
theorem nv_L_mixed_2 {X : Cx} {pos : Pos} (hN : X.N = N_L_mixed) (h : X.env.scope = defScope s_L_mixed) : PE X (.Name "_law_left" pos) (tVar 2) := pe_var (by rw [hN]; rfl) (.inr (.inl (kl_L_mixed_2 h)))
theorem gl_L_mixed_len {X : Cx} (h : X.env.scope = defScope s_L_mixed) : Gl X "len" := by unfold Gl PySem.Env.kindOf; rw [h]; decide +kernel
theorem gl_L_mixed_list {X : Cx} (h : X.env.scope = defScope s_L_mixed) : Gl X "list" := by unfold Gl PySem.Env.kindOf; rw [h]; decide +kernel
theorem gl_L_mixed_range {X : Cx} (h : X.env.scope = defScope s_L_mixed) : Gl X "range" := by unfold Gl PySem.Env.kindOf; rw [h]; decide +kernel
theorem der_L_mixed {P : Program} {w : World} {K : PySem.W.Frag} {mg : Str → Option Value} {base : Heap} {cc : Cl} (bn : Bn mg) (cn : Cn mg) (ce : Ce K mg cc) {fa_L_digit : Addr} {fd_L_digit : FuncData} (I_L_digit : FnI P w K mg base "_law_digit" 1 ["_law_pot_here", "_law_many"] (spM (GG K cc) XR0 2 P_L_digit) fa_L_digit fd_L_digit) {f : Addr} (cdv : Value) (A : Around) (outer : List PySem.Env) (s : Shared) (H : Hp) (E : XK) (hr : Room 1 (A.deeper (envOfC "_law_mixed" (defScope s_L_mixed) s.heap.objs.size f cdv))) (hg : A.guards = some []) :
    PSs (cxOf (L2.CX P w) P w K mg base N_L_mixed "_law_mixed" (defScope s_L_mixed) f cdv A outer s H E) (defBody s_L_mixed) (tEx (GG K cc) XR0 (fun c d _ H => E c d H) [0] g_L_mixed) := by
  have B : Bx (GG K cc) (fun c d _ H => E c d H) 1 (cxOf (L2.CX P w) P w K mg base N_L_mixed "_law_mixed" (defScope s_L_mixed) f cdv A outer s H E) := Bx.of rfl sc_L_mixed.nd hr hg
  unfold g_L_mixed ce_L_mixed_1 cc_L_mixed_1 ct_L_mixed_1
  exact (es_cons (es_set (i := 2) B.nd rfl (lc_L_mixed_2 rfl) (ev_callT1 (call_listA B.calm) o_listA (gl_L_mixed_list rfl) bn.b_list (by decide +kernel) (ev_name (nv_L_mixed_1 rfl rfl)))) (es_one (es_ret (ev_lc B.calm B.nd (ei_range1 (gl_L_mixed_range rfl) bn.b_range (ea_cons (ev_callB1 call_lenAll o_len (gl_L_mixed_len rfl) bn.b_len (by decide +kernel) (ev_name (nv_L_mixed_2 rfl rfl))) ea_nil)) (blkOk_by (N := N_L_mixed) (sc := defScope s_L_mixed) (own := [("_law_k", 3)]) (by decide +kernel)) (fun s1 H1 C1 cl1 fp1 => (eg_name (pg_name (i := 3) (B.blk s1 H1 _ _ fp1).nd rfl (.inl (by kernel_rfl))))) (fun s1 H1 C1 cl1 fp1 => ets_nil) (fun s1 H1 C1 cl1 fp1 => (ev_meth PySem.F.slot_list_pop PySem.F.type_list_pop mt_popAt mo_popAt (B.blk s1 H1 _ _ fp1).kk (pe_var (i := 2) rfl (.inr (.inl (by kernel_rfl)))) (ea_cons (ev_callM I_L_digit.fn ((B.blk s1 H1 _ _ fp1).room.mono (by decide)) (B.blk s1 H1 _ _ fp1).gu (B.blk s1 H1 _ _ fp1).tk (by unfold Gl; kernel_rfl) I_L_digit.mg I_L_digit.kp I_L_digit.bd (pe_var (i := 0) rfl (.inr (.inl (by kernel_rfl)))) (ea_cons (ev_callB1 call_lenAll o_len (by unfold Gl; kernel_rfl) bn.b_len (by decide +kernel) (ev_name (pe_var (i := 2) rfl (.inr (.inl (by kernel_rfl)))))) ea_nil)) ea_nil))) (show ∀ j, j < 4 → j ∉ [3] → j ∈ [0, 1, 2] by decide)))))
abbrev s_L_lines : Stmt := topS 35
abbrev N_L_lines : List Str := ["_law_pot_here", "_law_marks", "_law_lines_here", "_law_turn", "_law_letter", "_law_first", "_law_step", "_law_many", "_law_k"]
theorem sc_L_lines : FnScope N_L_lines ["_law_pot_here"] (defScope s_L_lines) := ⟨rfl, rfl, rfl, by decide +kernel, rfl, by decide +kernel, by decide +kernel⟩
theorem kl_L_lines_0 {X : Cx} (h : X.env.scope = defScope s_L_lines) : X.env.scope.names.lookup ("_law_pot_here" : Str) = some .local := by rw [h]; decide +kernel
theorem nv_L_lines_0 {X : Cx} {pos : Pos} (hN : X.N = N_L_lines) (h : X.env.scope = defScope s_L_lines) : PE X (.Name "_law_pot_here" pos) (tVar 0) := pe_var (by rw [hN]; rfl) (.inl (kl_L_lines_0 h))
theorem kl_L_lines_1 {X : Cx} (h : X.env.scope = defScope s_L_lines) : X.env.scope.names.lookup ("_law_marks" : Str) = some .local := by rw [h]; decide +kernel
theorem lc_L_lines_1 {X : Cx} (h : X.env.scope = defScope s_L_lines) : Loc X.env.scope "_law_marks" := .inl (kl_L_lines_1 h)
theorem nv_L_lines_1 {X : Cx} {pos : Pos} (hN : X.N = N_L_lines) (h : X.env.scope = defScope s_L_lines) : PE X (.Name "_law_marks" pos) (tVar 1) := pe_var (by rw [hN]; rfl) (.inl (kl_L_lines_1 h))
theorem kl_L_lines_2 {X : Cx} (h : X.env.scope = defScope s_L_lines) : X.env.scope.names.lookup ("_law_lines_here" : Str) = some .local := by rw [h]; decide +kernel
theorem lc_L_lines_2 {X : Cx} (h : X.env.scope = defScope s_L_lines) : Loc X.env.scope "_law_lines_here" := .inl (kl_L_lines_2 h)
theorem nv_L_lines_2 {X : Cx} {pos : Pos} (hN : X.N = N_L_lines) (h : X.env.scope = defScope s_L_lines) : PE X (.Name "_law_lines_here" pos) (tVar 2) := pe_var (by rw [hN]; rfl) (.inl (kl_L_lines_2 h))
theorem kl_L_lines_3 {X : Cx} (h : X.env.scope = defScope s_L_lines) : X.env.scope.names.lookup ("_law_turn" : Str) = some .local := by rw [h]; decide +kernel
theorem lc_L_lines_3 {X : Cx} (h : X.env.scope = defScope s_L_lines) : Loc X.env.scope "_law_turn" := .inl (kl_L_lines_3 h)
theorem kl_L_lines_4 {X : Cx} (h : X.env.scope = defScope s_L_lines) : X.env.scope.names.lookup ("_law_letter" : Str) = some .cell := by rw [h]; decide +kernel
theorem lc_L_lines_4 {X : Cx} (h : X.env.scope = defScope s_L_lines) : Loc X.env.scope "_law_letter" := .inr (kl_L_lines_4 h)
theorem kl_L_lines_5 {X : Cx} (h : X.env.scope = defScope s_L_lines) : X.env.scope.names.lookup ("_law_first" : Str) = some .cell := by rw [h]; decide +kernel
theorem lc_L_lines_5 {X : Cx} (h : X.env.scope = defScope s_L_lines) : Loc X.env.scope "_law_first" := .inr (kl_L_lines_5 h)
theorem kl_L_lines_6 {X : Cx} (h : X.env.scope = defScope s_L_lines) : X.env.scope.names.lookup ("_law_step" : Str) = some .cell := by rw [h]; decide +kernel
theorem lc_L_lines_6 {X : Cx} (h : X.env.scope = defScope s_L_lines) : Loc X.env.scope "_law_step" := .inr (kl_L_lines_6 h)
theorem kl_L_lines_7 {X : Cx} (h : X.env.scope = defScope s_L_lines) : X.env.scope.names.lookup ("_law_many" : Str) = some .cell := by rw [h]; decide +kernel
theorem lc_L_lines_7 {X : Cx} (h : X.env.scope = defScope s_L_lines) : Loc X.env.scope "_law_many" := .inr (kl_L_lines_7 h)
theorem nv_L_lines_7 {X : Cx} {pos : Pos} (hN : X.N = N_L_lines) (h : X.env.scope = defScope s_L_lines) : PE X (.Name "_law_many" pos) (tVar 7) := pe_var (by rw [hN]; rfl) (.inr (.inl (kl_L_lines_7 h)))
theorem gl_L_lines_L_digit {X : Cx} (h : X.env.scope = defScope s_L_lines) : Gl X "_law_digit" := by unfold Gl PySem.Env.kindOf; rw [h]; decide +kernel
theorem gl_L_lines_L_mixed {X : Cx} (h : X.env.scope = defScope s_L_lines) : Gl X "_law_mixed" := by unfold Gl PySem.Env.kindOf; rw [h]; decide +kernel
theorem gl_L_lines_len {X : Cx} (h : X.env.scope = defScope s_L_lines) : Gl X "len" := by unfold Gl PySem.Env.kindOf; rw [h]; decide +kernel
theorem gl_L_lines_range {X : Cx} (h : X.env.scope = defScope s_L_lines) : Gl X "range" := by unfold Gl PySem.Env.kindOf; rw [h]; decide +kernel
theorem der_L_lines {P : Program} {w : World} {K : PySem.W.Frag} {mg : Str → Option Value} {base : Heap} {cc : Cl} (bn : Bn mg) (cn : Cn mg) (ce : Ce K mg cc) {fa_L_mixed : Addr} {fd_L_mixed : FuncData} (I_L_mixed : FnI P w K mg base "_law_mixed" 2 ["_law_pot_here", "_law_some"] (spM (GG K cc) XR0 2 P_L_mixed) fa_L_mixed fd_L_mixed) {fa_L_digit : Addr} {fd_L_digit : FuncData} (I_L_digit : FnI P w K mg base "_law_digit" 1 ["_law_pot_here", "_law_many"] (spM (GG K cc) XR0 2 P_L_digit) fa_L_digit fd_L_digit) {f : Addr} (cdv : Value) (A : Around) (outer : List PySem.Env) (s : Shared) (H : Hp) (E : XK) (hr : Room 2 (A.deeper (envOfC "_law_lines" (defScope s_L_lines) s.heap.objs.size f cdv))) (hg : A.guards = some []) :
    PSs (cxOf (L2.CX P w) P w K mg base N_L_lines "_law_lines" (defScope s_L_lines) f cdv A outer s H E) (defBody s_L_lines) (tEx (GG K cc) XR0 (fun c d _ H => E c d H) [0] g_L_lines) := by
  have B : Bx (GG K cc) (fun c d _ H => E c d H) 2 (cxOf (L2.CX P w) P w K mg base N_L_lines "_law_lines" (defScope s_L_lines) f cdv A outer s H E) := Bx.of rfl sc_L_lines.nd hr hg
  unfold g_L_lines fb_L_lines_1 ft_L_lines_1 ce_L_lines_2 cc_L_lines_2 ct_L_lines_2 ce_L_lines_1 cc_L_lines_1 ct_L_lines_1
  exact (es_cons (es_set (i := 1) B.nd rfl (lc_L_lines_1 rfl) (ev_slice B.kk (ev_callM I_L_mixed.fn (B.room.mono (by decide)) B.gu B.tk (gl_L_lines_L_mixed rfl) I_L_mixed.mg I_L_mixed.kp I_L_mixed.bd (nv_L_lines_0 rfl rfl) (ea_cons ev_str ea_nil)) eo_none (eo_some (ev_op op_addAll o_add ev_int (ev_callM I_L_digit.fn (B.room.mono (by decide)) B.gu B.tk (gl_L_lines_L_digit rfl) I_L_digit.mg I_L_digit.kp I_L_digit.bd (nv_L_lines_0 rfl rfl) (ea_cons ev_int ea_nil)))))) (es_cons (es_setLc (i := 2) B.calm B.nd rfl (kl_L_lines_2 rfl) (sw_true rfl (kl_L_lines_2 rfl) rfl (by decide +kernel)) (ei_seq B.kk (ev_name (nv_L_lines_1 rfl rfl))) (blkOk_by (N := N_L_lines) (sc := defScope s_L_lines) (own := [("_law_letter", 4)]) (by decide +kernel)) (fun s1 H1 C1 cl1 fp1 => (eg_name (pg_name (i := 4) (B.blk s1 H1 _ _ fp1).nd rfl (.inl (by kernel_rfl))))) (fun s1 H1 C1 cl1 fp1 => ets_nil) (fun s1 H1 C1 cl1 fp1 => (ev_tup (ea_cons (ev_name (pe_var (i := 4) rfl (.inl (by kernel_rfl)))) (ea_cons ev_int (ea_cons ev_int ea_nil))))) (show ∀ j, j < 9 → j ∉ [4] → j ∈ [0, 1, 2, 3, 5, 6, 7, 8] by decide)) (es_cons (es_for B.po B.calm (ei_range1 (gl_L_lines_range rfl) bn.b_range (ea_cons (ev_callM I_L_digit.fn (B.room.mono (by decide)) B.gu B.tk (gl_L_lines_L_digit rfl) I_L_digit.mg I_L_digit.kp I_L_digit.bd (nv_L_lines_0 rfl rfl) (ea_cons ev_int ea_nil)) ea_nil)) (eg_name (pg_name (i := 3) B.nd rfl (lc_L_lines_3 rfl))) (es_cons (es_asg (ev_meth PySem.F.slot_list_pop PySem.F.type_list_pop mt_popAt mo_popAt B.kk (nv_L_lines_2 rfl rfl) (ea_cons (ev_callM I_L_digit.fn (B.room.mono (by decide)) B.gu B.tk (gl_L_lines_L_digit rfl) I_L_digit.mg I_L_digit.kp I_L_digit.bd (nv_L_lines_0 rfl rfl) (ea_cons (ev_callB1 call_lenAll o_len (gl_L_lines_len rfl) bn.b_len (by decide +kernel) (ev_name (nv_L_lines_2 rfl rfl))) ea_nil)) ea_nil)) (eg_tup B.calm B.kk (egs_cons (eg_name (pg_name (i := 4) B.nd rfl (lc_L_lines_4 rfl))) (egs_cons (eg_name (pg_name (i := 5) B.nd rfl (lc_L_lines_5 rfl))) (egs_cons (eg_name (pg_name (i := 6) B.nd rfl (lc_L_lines_6 rfl))) egs_nil))))) (es_cons (es_set (i := 7) B.nd rfl (lc_L_lines_7 rfl) (ev_op op_addAll o_add ev_int (ev_callM I_L_digit.fn (B.room.mono (by decide)) B.gu B.tk (gl_L_lines_L_digit rfl) I_L_digit.mg I_L_digit.kp I_L_digit.bd (nv_L_lines_0 rfl rfl) (ea_cons ev_int ea_nil)))) (es_one (es_set (i := 2) B.nd rfl (lc_L_lines_2 rfl) (ev_op op_addAll o_add (ev_name (nv_L_lines_2 rfl rfl)) (ev_lc B.calm B.nd (ei_range1 (gl_L_lines_range rfl) bn.b_range (ea_cons (ev_name (nv_L_lines_7 rfl rfl)) ea_nil)) (blkOk_by (N := N_L_lines) (sc := defScope s_L_lines) (own := [("_law_k", 8)]) (by decide +kernel)) (fun s1 H1 C1 cl1 fp1 => (eg_name (pg_name (i := 8) (B.blk s1 H1 _ _ fp1).nd rfl (.inl (by kernel_rfl))))) (fun s1 H1 C1 cl1 fp1 => ets_nil) (fun s1 H1 C1 cl1 fp1 => (ev_tup (ea_cons (ev_name (pe_var (i := 4) rfl (.inr (.inl (by kernel_rfl))))) (ea_cons (ev_op op_addAll o_add (ev_name (pe_var (i := 5) rfl (.inr (.inl (by kernel_rfl))))) (ev_op op_mulW o_mul (ev_name (pe_var (i := 8) rfl (.inl (by kernel_rfl)))) (ev_name (pe_var (i := 6) rfl (.inr (.inl (by kernel_rfl))))))) (ea_cons (ev_op op_mulW o_mul (ev_name (pe_var (i := 6) rfl (.inr (.inl (by kernel_rfl))))) (ev_name (pe_var (i := 7) rfl (.inr (.inl (by kernel_rfl)))))) ea_nil))))) (show ∀ j, j < 9 → j ∉ [8] → j ∈ [0, 1, 2, 3, 4, 5, 6, 7] by decide)))))))) (es_one (es_ret (ev_callM I_L_mixed.fn (B.room.mono (by decide)) B.gu B.tk (gl_L_lines_L_mixed rfl) I_L_mixed.mg I_L_mixed.kp I_L_mixed.bd (nv_L_lines_0 rfl rfl) (ea_cons (ev_name (nv_L_lines_2 rfl rfl)) ea_nil)))))))
abbrev s_L_far : Stmt := topS 32
abbrev N_L_far : List Str := ["_law_pot_here", "_law_found", "_law_k"]
theorem sc_L_far : FnScope N_L_far ["_law_pot_here"] (defScope s_L_far) := ⟨rfl, rfl, rfl, by decide +kernel, rfl, by decide +kernel, by decide +kernel⟩
theorem kl_L_far_0 {X : Cx} (h : X.env.scope = defScope s_L_far) : X.env.scope.names.lookup ("_law_pot_here" : Str) = some .local := by rw [h]; decide +kernel
theorem nv_L_far_0 {X : Cx} {pos : Pos} (hN : X.N = N_L_far) (h : X.env.scope = defScope s_L_far) : PE X (.Name "_law_pot_here" pos) (tVar 0) := pe_var (by rw [hN]; rfl) (.inl (kl_L_far_0 h))
theorem kl_L_far_1 {X : Cx} (h : X.env.scope = defScope s_L_far) : X.env.scope.names.lookup ("_law_found" : Str) = some .local := by rw [h]; decide +kernel
theorem lc_L_far_1 {X : Cx} (h : X.env.scope = defScope s_L_far) : Loc X.env.scope "_law_found" := .inl (kl_L_far_1 h)
theorem nv_L_far_1 {X : Cx} {pos : Pos} (hN : X.N = N_L_far) (h : X.env.scope = defScope s_L_far) : PE X (.Name "_law_found" pos) (tVar 1) := pe_var (by rw [hN]; rfl) (.inl (kl_L_far_1 h))
theorem kl_L_far_2 {X : Cx} (h : X.env.scope = defScope s_L_far) : X.env.scope.names.lookup ("_law_k" : Str) = some .local := by rw [h]; decide +kernel
theorem lc_L_far_2 {X : Cx} (h : X.env.scope = defScope s_L_far) : Loc X.env.scope "_law_k" := .inl (kl_L_far_2 h)
theorem gl_L_far_L_digit {X : Cx} (h : X.env.scope = defScope s_L_far) : Gl X "_law_digit" := by unfold Gl PySem.Env.kindOf; rw [h]; decide +kernel
theorem gl_L_far_range {X : Cx} (h : X.env.scope = defScope s_L_far) : Gl X "range" := by unfold Gl PySem.Env.kindOf; rw [h]; decide +kernel
theorem der_L_far {P : Program} {w : World} {K : PySem.W.Frag} {mg : Str → Option Value} {base : Heap} {cc : Cl} (bn : Bn mg) (cn : Cn mg) (ce : Ce K mg cc) {fa_L_digit : Addr} {fd_L_digit : FuncData} (I_L_digit : FnI P w K mg base "_law_digit" 1 ["_law_pot_here", "_law_many"] (spM (GG K cc) XR0 2 P_L_digit) fa_L_digit fd_L_digit) {f : Addr} (cdv : Value) (A : Around) (outer : List PySem.Env) (s : Shared) (H : Hp) (E : XK) (hr : Room 1 (A.deeper (envOfC "_law_far" (defScope s_L_far) s.heap.objs.size f cdv))) (hg : A.guards = some []) :
    PSs (cxOf (L2.CX P w) P w K mg base N_L_far "_law_far" (defScope s_L_far) f cdv A outer s H E) (defBody s_L_far) (tEx (GG K cc) XR0 (fun c d _ H => E c d H) [0] g_L_far) := by
  have B : Bx (GG K cc) (fun c d _ H => E c d H) 1 (cxOf (L2.CX P w) P w K mg base N_L_far "_law_far" (defScope s_L_far) f cdv A outer s H E) := Bx.of rfl sc_L_far.nd hr hg
  unfold g_L_far fb_L_far_1 ft_L_far_1
  exact (es_cons (es_set (i := 1) B.nd rfl (lc_L_far_1 rfl) ev_int) (es_cons (es_for B.po B.calm (ei_range1 (gl_L_far_range rfl) bn.b_range (ea_cons ev_int ea_nil)) (eg_name (pg_name (i := 2) B.nd rfl (lc_L_far_2 rfl))) (es_one (es_set (i := 1) B.nd rfl (lc_L_far_1 rfl) (ev_op op_addAll o_add (ev_op op_mulW o_mul (ev_name (nv_L_far_1 rfl rfl)) (ev_op op_pow o_pow ev_int ev_int)) (ev_callM I_L_digit.fn (B.room.mono (by decide)) B.gu B.tk (gl_L_far_L_digit rfl) I_L_digit.mg I_L_digit.kp I_L_digit.bd (nv_L_far_0 rfl rfl) (ea_cons (ev_op op_pow o_pow ev_int ev_int) ea_nil)))))) (es_one (es_ret (ev_op op_mod o_mod (ev_name (nv_L_far_1 rfl rfl)) (ev_op op_pow o_pow ev_int ev_int))))))
abbrev s_L_good : Stmt := topS 36
abbrev N_L_good : List Str := ["_law_pot_here", "_law_head_here", "_law_tail_here", "_law_letter", "_law_first", "_law_step", "_law_turns", "_law_early", "_law_k"]
theorem sc_L_good : FnScope N_L_good ["_law_pot_here"] (defScope s_L_good) := ⟨rfl, rfl, rfl, by decide +kernel, rfl, by decide +kernel, by decide +kernel⟩
theorem kl_L_good_0 {X : Cx} (h : X.env.scope = defScope s_L_good) : X.env.scope.names.lookup ("_law_pot_here" : Str) = some .local := by rw [h]; decide +kernel
theorem nv_L_good_0 {X : Cx} {pos : Pos} (hN : X.N = N_L_good) (h : X.env.scope = defScope s_L_good) : PE X (.Name "_law_pot_here" pos) (tVar 0) := pe_var (by rw [hN]; rfl) (.inl (kl_L_good_0 h))
theorem kl_L_good_1 {X : Cx} (h : X.env.scope = defScope s_L_good) : X.env.scope.names.lookup ("_law_head_here" : Str) = some .local := by rw [h]; decide +kernel
theorem lc_L_good_1 {X : Cx} (h : X.env.scope = defScope s_L_good) : Loc X.env.scope "_law_head_here" := .inl (kl_L_good_1 h)
theorem nv_L_good_1 {X : Cx} {pos : Pos} (hN : X.N = N_L_good) (h : X.env.scope = defScope s_L_good) : PE X (.Name "_law_head_here" pos) (tVar 1) := pe_var (by rw [hN]; rfl) (.inl (kl_L_good_1 h))
theorem kl_L_good_2 {X : Cx} (h : X.env.scope = defScope s_L_good) : X.env.scope.names.lookup ("_law_tail_here" : Str) = some .local := by rw [h]; decide +kernel
theorem nv_L_good_2 {X : Cx} {pos : Pos} (hN : X.N = N_L_good) (h : X.env.scope = defScope s_L_good) : PE X (.Name "_law_tail_here" pos) (tVar 2) := pe_var (by rw [hN]; rfl) (.inl (kl_L_good_2 h))
theorem kl_L_good_3 {X : Cx} (h : X.env.scope = defScope s_L_good) : X.env.scope.names.lookup ("_law_letter" : Str) = some .cell := by rw [h]; decide +kernel
theorem lc_L_good_3 {X : Cx} (h : X.env.scope = defScope s_L_good) : Loc X.env.scope "_law_letter" := .inr (kl_L_good_3 h)
theorem nv_L_good_3 {X : Cx} {pos : Pos} (hN : X.N = N_L_good) (h : X.env.scope = defScope s_L_good) : PE X (.Name "_law_letter" pos) (tVar 3) := pe_var (by rw [hN]; rfl) (.inr (.inl (kl_L_good_3 h)))
theorem kl_L_good_4 {X : Cx} (h : X.env.scope = defScope s_L_good) : X.env.scope.names.lookup ("_law_first" : Str) = some .cell := by rw [h]; decide +kernel
theorem lc_L_good_4 {X : Cx} (h : X.env.scope = defScope s_L_good) : Loc X.env.scope "_law_first" := .inr (kl_L_good_4 h)
theorem nv_L_good_4 {X : Cx} {pos : Pos} (hN : X.N = N_L_good) (h : X.env.scope = defScope s_L_good) : PE X (.Name "_law_first" pos) (tVar 4) := pe_var (by rw [hN]; rfl) (.inr (.inl (kl_L_good_4 h)))
theorem kl_L_good_5 {X : Cx} (h : X.env.scope = defScope s_L_good) : X.env.scope.names.lookup ("_law_step" : Str) = some .cell := by rw [h]; decide +kernel
theorem lc_L_good_5 {X : Cx} (h : X.env.scope = defScope s_L_good) : Loc X.env.scope "_law_step" := .inr (kl_L_good_5 h)
theorem nv_L_good_5 {X : Cx} {pos : Pos} (hN : X.N = N_L_good) (h : X.env.scope = defScope s_L_good) : PE X (.Name "_law_step" pos) (tVar 5) := pe_var (by rw [hN]; rfl) (.inr (.inl (kl_L_good_5 h)))
theorem kl_L_good_6 {X : Cx} (h : X.env.scope = defScope s_L_good) : X.env.scope.names.lookup ("_law_turns" : Str) = some .local := by rw [h]; decide +kernel
theorem lc_L_good_6 {X : Cx} (h : X.env.scope = defScope s_L_good) : Loc X.env.scope "_law_turns" := .inl (kl_L_good_6 h)
theorem nv_L_good_6 {X : Cx} {pos : Pos} (hN : X.N = N_L_good) (h : X.env.scope = defScope s_L_good) : PE X (.Name "_law_turns" pos) (tVar 6) := pe_var (by rw [hN]; rfl) (.inl (kl_L_good_6 h))
theorem kl_L_good_7 {X : Cx} (h : X.env.scope = defScope s_L_good) : X.env.scope.names.lookup ("_law_early" : Str) = some .local := by rw [h]; decide +kernel
theorem nv_L_good_7 {X : Cx} {pos : Pos} (hN : X.N = N_L_good) (h : X.env.scope = defScope s_L_good) : PE X (.Name "_law_early" pos) (tVar 7) := pe_var (by rw [hN]; rfl) (.inl (kl_L_good_7 h))
theorem gl_L_good_L_digit {X : Cx} (h : X.env.scope = defScope s_L_good) : Gl X "_law_digit" := by unfold Gl PySem.Env.kindOf; rw [h]; decide +kernel
theorem gl_L_good_L_far {X : Cx} (h : X.env.scope = defScope s_L_good) : Gl X "_law_far" := by unfold Gl PySem.Env.kindOf; rw [h]; decide +kernel
theorem gl_L_good_L_lines {X : Cx} (h : X.env.scope = defScope s_L_good) : Gl X "_law_lines" := by unfold Gl PySem.Env.kindOf; rw [h]; decide +kernel
theorem gl_L_good_L_mixed {X : Cx} (h : X.env.scope = defScope s_L_good) : Gl X "_law_mixed" := by unfold Gl PySem.Env.kindOf; rw [h]; decide +kernel
theorem gl_L_good_int {X : Cx} (h : X.env.scope = defScope s_L_good) : Gl X "int" := by unfold Gl PySem.Env.kindOf; rw [h]; decide +kernel
theorem gl_L_good_len {X : Cx} (h : X.env.scope = defScope s_L_good) : Gl X "len" := by unfold Gl PySem.Env.kindOf; rw [h]; decide +kernel
theorem gl_L_good_min {X : Cx} (h : X.env.scope = defScope s_L_good) : Gl X "min" := by unfold Gl PySem.Env.kindOf; rw [h]; decide +kernel
theorem gl_L_good_range {X : Cx} (h : X.env.scope = defScope s_L_good) : Gl X "range" := by unfold Gl PySem.Env.kindOf; rw [h]; decide +kernel
theorem gl_L_good_tuple {X : Cx} (h : X.env.scope = defScope s_L_good) : Gl X "tuple" := by unfold Gl PySem.Env.kindOf; rw [h]; decide +kernel
theorem der_L_good {P : Program} {w : World} {K : PySem.W.Frag} {mg : Str → Option Value} {base : Heap} {cc : Cl} (bn : Bn mg) (cn : Cn mg) (ce : Ce K mg cc) {fa_L_lines : Addr} {fd_L_lines : FuncData} (I_L_lines : FnI P w K mg base "_law_lines" 3 ["_law_pot_here"] (spM (GG K cc) XR0 1 P_L_lines) fa_L_lines fd_L_lines) {fa_L_digit : Addr} {fd_L_digit : FuncData} (I_L_digit : FnI P w K mg base "_law_digit" 1 ["_law_pot_here", "_law_many"] (spM (GG K cc) XR0 2 P_L_digit) fa_L_digit fd_L_digit) {fa_L_mixed : Addr} {fd_L_mixed : FuncData} (I_L_mixed : FnI P w K mg base "_law_mixed" 2 ["_law_pot_here", "_law_some"] (spM (GG K cc) XR0 2 P_L_mixed) fa_L_mixed fd_L_mixed) {fa_L_far : Addr} {fd_L_far : FuncData} (I_L_far : FnI P w K mg base "_law_far" 2 ["_law_pot_here"] (spM (GG K cc) XR0 1 P_L_far) fa_L_far fd_L_far) {f : Addr} (cdv : Value) (A : Around) (outer : List PySem.Env) (s : Shared) (H : Hp) (E : XK) (hr : Room 3 (A.deeper (envOfC "_law_good" (defScope s_L_good) s.heap.objs.size f cdv))) (hg : A.guards = some []) :
    PSs (cxOf (L2.CX P w) P w K mg base N_L_good "_law_good" (defScope s_L_good) f cdv A outer s H E) (defBody s_L_good) (tEx (GG K cc) XR0 (fun c d _ H => E c d H) [0] g_L_good) := by
  have B : Bx (GG K cc) (fun c d _ H => E c d H) 3 (cxOf (L2.CX P w) P w K mg base N_L_good "_law_good" (defScope s_L_good) f cdv A outer s H E) := Bx.of rfl sc_L_good.nd hr hg
  unfold g_L_good fb_L_good_1 ft_L_good_1 ce_L_good_1 cc_L_good_1 ct_L_good_1
  exact (es_cons (es_par (i := 1) (j := 2) B.calm B.nd rfl rfl (by decide) (kl_L_good_1 rfl) (kl_L_good_2 rfl) (ev_lst ea_nil) (ev_lst ea_nil) (by rfl)) (es_cons (es_for B.po B.calm (ei_seq B.kk (ev_callM I_L_lines.fn (B.room.mono (by decide)) B.gu B.tk (gl_L_good_L_lines rfl) I_L_lines.mg I_L_lines.kp I_L_lines.bd (nv_L_good_0 rfl rfl) ea_nil)) (eg_tup B.calm B.kk (egs_cons (eg_name (pg_name (i := 3) B.nd rfl (lc_L_good_3 rfl))) (egs_cons (eg_name (pg_name (i := 4) B.nd rfl (lc_L_good_4 rfl))) (egs_cons (eg_name (pg_name (i := 5) B.nd rfl (lc_L_good_5 rfl))) egs_nil)))) (es_cons (es_set (i := 6) B.nd rfl (lc_L_good_6 rfl) (ev_ix ix_seq o_ix (ev_lst (ea_cons (ev_callM I_L_digit.fn (B.room.mono (by decide)) B.gu B.tk (gl_L_good_L_digit rfl) I_L_digit.mg I_L_digit.kp I_L_digit.bd (nv_L_good_0 rfl rfl) (ea_cons ev_int ea_nil)) (ea_cons (ev_op op_fdivW o_div (ev_callM I_L_far.fn (B.room.mono (by decide)) B.gu B.tk (gl_L_good_L_far rfl) I_L_far.mg I_L_far.kp I_L_far.bd (nv_L_good_0 rfl rfl) ea_nil) (ev_op op_pow o_pow ev_int ev_int)) ea_nil))) (ev_callT1 call_int1 o_int (gl_L_good_int rfl) bn.b_int (by decide +kernel) (ev_cmp (op_eqT B.un64) o_eq (ev_callM I_L_digit.fn (B.room.mono (by decide)) B.gu B.tk (gl_L_good_L_digit rfl) I_L_digit.mg I_L_digit.kp I_L_digit.bd (nv_L_good_0 rfl rfl) (ea_cons ev_int ea_nil)) ev_int (nomark _))) (fun _ _ => rfl))) (es_cons (es_setLc (i := 7) B.calm B.nd rfl (kl_L_good_7 rfl) (sw_true rfl (kl_L_good_7 rfl) rfl (by decide +kernel)) (ei_range1 (gl_L_good_range rfl) bn.b_range (ea_cons (ev_callB2 (call_min2 B.calm) o_min (gl_L_good_min rfl) bn.b_min (by decide +kernel) (ev_name (nv_L_good_6 rfl rfl)) ev_int) ea_nil)) (blkOk_by (N := N_L_good) (sc := defScope s_L_good) (own := [("_law_k", 8)]) (by decide +kernel)) (fun s1 H1 C1 cl1 fp1 => (eg_name (pg_name (i := 8) (B.blk s1 H1 _ _ fp1).nd rfl (.inl (by kernel_rfl))))) (fun s1 H1 C1 cl1 fp1 => ets_nil) (fun s1 H1 C1 cl1 fp1 => (ev_tup (ea_cons (ev_name (pe_var (i := 3) rfl (.inr (.inl (by kernel_rfl))))) (ea_cons (ev_op op_addAll o_add (ev_name (pe_var (i := 4) rfl (.inr (.inl (by kernel_rfl))))) (ev_op op_mulW o_mul (ev_name (pe_var (i := 8) rfl (.inl (by kernel_rfl)))) (ev_name (pe_var (i := 5) rfl (.inr (.inl (by kernel_rfl))))))) ea_nil)))) (show ∀ j, j < 9 → j ∉ [8] → j ∈ [0, 1, 2, 3, 4, 5, 6, 7] by decide)) (es_cons (es_set (i := 1) B.nd rfl (lc_L_good_1 rfl) (ev_op op_addAll o_add (ev_name (nv_L_good_1 rfl rfl)) (ev_slice B.kk (ev_name (nv_L_good_7 rfl rfl)) (eo_some (ev_callM I_L_digit.fn (B.room.mono (by decide)) B.gu B.tk (gl_L_good_L_digit rfl) I_L_digit.mg I_L_digit.kp I_L_digit.bd (nv_L_good_0 rfl rfl) (ea_cons (ev_op op_addAll o_add (ev_callB1 call_lenAll o_len (gl_L_good_len rfl) bn.b_len (by decide +kernel) (ev_name (nv_L_good_7 rfl rfl))) ev_int) ea_nil))) eo_none))) (es_one (es_if (et_cmp op_gt o_gt (ev_callM I_L_digit.fn (B.room.mono (by decide)) B.gu B.tk (gl_L_good_L_digit rfl) I_L_digit.mg I_L_digit.kp I_L_digit.bd (nv_L_good_0 rfl rfl) (ea_cons ev_int ea_nil)) ev_int (nomark _)) (es_one (es_expr (ev_meth PySem.F.slot_list_append PySem.F.type_list_append mt_append mo_append B.kk (nv_L_good_2 rfl rfl) (ea_cons (ev_tup (ea_cons (ev_name (nv_L_good_3 rfl rfl)) (ea_cons (ev_op op_addAll o_add (ev_name (nv_L_good_4 rfl rfl)) (ev_op op_mulW o_mul (ev_name (nv_L_good_6 rfl rfl)) (ev_name (nv_L_good_5 rfl rfl)))) (ea_cons (ev_name (nv_L_good_5 rfl rfl)) ea_nil)))) ea_nil)))) es_nil)))))) (es_one (es_ret (ev_tup (ea_cons (ev_callT1 call_tupleF o_tuple (gl_L_good_tuple rfl) bn.b_tuple (by decide +kernel) (ev_callM I_L_mixed.fn (B.room.mono (by decide)) B.gu B.tk (gl_L_good_L_mixed rfl) I_L_mixed.mg I_L_mixed.kp I_L_mixed.bd (nv_L_good_0 rfl rfl) (ea_cons (ev_name (nv_L_good_1 rfl rfl)) ea_nil))) (ea_cons (ev_callT1 call_tupleF o_tuple (gl_L_good_tuple rfl) bn.b_tuple (by decide +kernel) (ev_name (nv_L_good_2 rfl rfl))) ea_nil)))))))
abbrev s_L_met : Stmt := topS 39
abbrev N_L_met : List Str := ["_law_pot_here", "_law_letter", "_law_number_here", "_law_stride", "_law_back", "_law_begin"]
theorem sc_L_met : FnScope N_L_met ["_law_pot_here", "_law_letter", "_law_number_here"] (defScope s_L_met) := ⟨rfl, rfl, rfl, by decide +kernel, rfl, by decide +kernel, by decide +kernel⟩
theorem kl_L_met_0 {X : Cx} (h : X.env.scope = defScope s_L_met) : X.env.scope.names.lookup ("_law_pot_here" : Str) = some .local := by rw [h]; decide +kernel
theorem nv_L_met_0 {X : Cx} {pos : Pos} (hN : X.N = N_L_met) (h : X.env.scope = defScope s_L_met) : PE X (.Name "_law_pot_here" pos) (tVar 0) := pe_var (by rw [hN]; rfl) (.inl (kl_L_met_0 h))
theorem kl_L_met_1 {X : Cx} (h : X.env.scope = defScope s_L_met) : X.env.scope.names.lookup ("_law_letter" : Str) = some .local := by rw [h]; decide +kernel
theorem nv_L_met_1 {X : Cx} {pos : Pos} (hN : X.N = N_L_met) (h : X.env.scope = defScope s_L_met) : PE X (.Name "_law_letter" pos) (tVar 1) := pe_var (by rw [hN]; rfl) (.inl (kl_L_met_1 h))
theorem kl_L_met_2 {X : Cx} (h : X.env.scope = defScope s_L_met) : X.env.scope.names.lookup ("_law_number_here" : Str) = some .local := by rw [h]; decide +kernel
theorem nv_L_met_2 {X : Cx} {pos : Pos} (hN : X.N = N_L_met) (h : X.env.scope = defScope s_L_met) : PE X (.Name "_law_number_here" pos) (tVar 2) := pe_var (by rw [hN]; rfl) (.inl (kl_L_met_2 h))
theorem kl_L_met_3 {X : Cx} (h : X.env.scope = defScope s_L_met) : X.env.scope.names.lookup ("_law_stride" : Str) = some .local := by rw [h]; decide +kernel
theorem lc_L_met_3 {X : Cx} (h : X.env.scope = defScope s_L_met) : Loc X.env.scope "_law_stride" := .inl (kl_L_met_3 h)
theorem nv_L_met_3 {X : Cx} {pos : Pos} (hN : X.N = N_L_met) (h : X.env.scope = defScope s_L_met) : PE X (.Name "_law_stride" pos) (tVar 3) := pe_var (by rw [hN]; rfl) (.inl (kl_L_met_3 h))
theorem kl_L_met_4 {X : Cx} (h : X.env.scope = defScope s_L_met) : X.env.scope.names.lookup ("_law_back" : Str) = some .local := by rw [h]; decide +kernel
theorem lc_L_met_4 {X : Cx} (h : X.env.scope = defScope s_L_met) : Loc X.env.scope "_law_back" := .inl (kl_L_met_4 h)
theorem nv_L_met_4 {X : Cx} {pos : Pos} (hN : X.N = N_L_met) (h : X.env.scope = defScope s_L_met) : PE X (.Name "_law_back" pos) (tVar 4) := pe_var (by rw [hN]; rfl) (.inl (kl_L_met_4 h))
theorem kl_L_met_5 {X : Cx} (h : X.env.scope = defScope s_L_met) : X.env.scope.names.lookup ("_law_begin" : Str) = some .local := by rw [h]; decide +kernel
theorem lc_L_met_5 {X : Cx} (h : X.env.scope = defScope s_L_met) : Loc X.env.scope "_law_begin" := .inl (kl_L_met_5 h)
theorem nv_L_met_5 {X : Cx} {pos : Pos} (hN : X.N = N_L_met) (h : X.env.scope = defScope s_L_met) : PE X (.Name "_law_begin" pos) (tVar 5) := pe_var (by rw [hN]; rfl) (.inl (kl_L_met_5 h))
theorem gl_L_met_L_digit {X : Cx} (h : X.env.scope = defScope s_L_met) : Gl X "_law_digit" := by unfold Gl PySem.Env.kindOf; rw [h]; decide +kernel
theorem der_L_met {P : Program} {w : World} {K : PySem.W.Frag} {mg : Str → Option Value} {base : Heap} {cc : Cl} (bn : Bn mg) (cn : Cn mg) (ce : Ce K mg cc) {fa_L_digit : Addr} {fd_L_digit : FuncData} (I_L_digit : FnI P w K mg base "_law_digit" 1 ["_law_pot_here", "_law_many"] (spM (GG K cc) XR0 2 P_L_digit) fa_L_digit fd_L_digit) {f : Addr} (cdv : Value) (A : Around) (outer : List PySem.Env) (s : Shared) (H : Hp) (E : XK) (hr : Room 1 (A.deeper (envOfC "_law_met" (defScope s_L_met) s.heap.objs.size f cdv))) (hg : A.guards = some []) :
    PSs (cxOf (L2.CX P w) P w K mg base N_L_met "_law_met" (defScope s_L_met) f cdv A outer s H E) (defBody s_L_met) (tEx (GG K cc) XR0 (fun c d _ H => E c d H) [0] g_L_met) := by
  have B : Bx (GG K cc) (fun c d _ H => E c d H) 1 (cxOf (L2.CX P w) P w K mg base N_L_met "_law_met" (defScope s_L_met) f cdv A outer s H E) := Bx.of rfl sc_L_met.nd hr hg
  unfold g_L_met
  exact (es_cons (es_set (i := 3) B.nd rfl (lc_L_met_3 rfl) (ev_op op_addAll o_add ev_int (ev_callM I_L_digit.fn (B.room.mono (by decide)) B.gu B.tk (gl_L_met_L_digit rfl) I_L_digit.mg I_L_digit.kp I_L_digit.bd (nv_L_met_0 rfl rfl) (ea_cons (ev_ix ix_seq o_ix (ev_lst (ea_cons ev_int (ea_cons (ev_op op_pow o_pow ev_int ev_int) ea_nil))) (ev_callM I_L_digit.fn (B.room.mono (by decide)) B.gu B.tk (gl_L_met_L_digit rfl) I_L_digit.mg I_L_digit.kp I_L_digit.bd (nv_L_met_0 rfl rfl) (ea_cons ev_int ea_nil)) (fun _ _ => rfl)) ea_nil)))) (es_cons (es_set (i := 4) B.nd rfl (lc_L_met_4 rfl) (ev_op op_mulW o_mul (ev_callM I_L_digit.fn (B.room.mono (by decide)) B.gu B.tk (gl_L_met_L_digit rfl) I_L_digit.mg I_L_digit.kp I_L_digit.bd (nv_L_met_0 rfl rfl) (ea_cons (ev_ix ix_seq o_ix (ev_lst (ea_cons ev_int (ea_cons ev_int ea_nil))) (ev_callM I_L_digit.fn (B.room.mono (by decide)) B.gu B.tk (gl_L_met_L_digit rfl) I_L_digit.mg I_L_digit.kp I_L_digit.bd (nv_L_met_0 rfl rfl) (ea_cons ev_int ea_nil)) (fun _ _ => rfl)) ea_nil)) (ev_name (nv_L_met_3 rfl rfl)))) (es_cons (es_set (i := 5) B.nd rfl (lc_L_met_5 rfl) (ev_if (et_cmp op_le o_le (ev_name (nv_L_met_4 rfl rfl)) (ev_name (nv_L_met_2 rfl rfl)) (nomark _)) (ev_op op_sub o_sub (ev_name (nv_L_met_2 rfl rfl)) (ev_name (nv_L_met_4 rfl rfl))) (ev_op op_mod o_mod (ev_name (nv_L_met_2 rfl rfl)) (ev_name (nv_L_met_3 rfl rfl))))) (es_one (es_ret (ev_tup (ea_cons (ev_name (nv_L_met_1 rfl rfl)) (ea_cons (ev_name (nv_L_met_5 rfl rfl)) (ea_cons (ev_name (nv_L_met_3 rfl rfl)) ea_nil)))))))))
abbrev s_L_twice : Stmt := topS 40
abbrev N_L_twice : List Str := ["_law_pot_here", "_law_head_here", "_law_tail_here", "_law_way", "_law_at", "_law_letter", "_law_first", "_law_step", "_law_turn"]
theorem sc_L_twice : FnScope N_L_twice ["_law_pot_here", "_law_head_here", "_law_tail_here"] (defScope s_L_twice) := ⟨rfl, rfl, rfl, by decide +kernel, rfl, by decide +kernel, by decide +kernel⟩
theorem kl_L_twice_0 {X : Cx} (h : X.env.scope = defScope s_L_twice) : X.env.scope.names.lookup ("_law_pot_here" : Str) = some .local := by rw [h]; decide +kernel
theorem nv_L_twice_0 {X : Cx} {pos : Pos} (hN : X.N = N_L_twice) (h : X.env.scope = defScope s_L_twice) : PE X (.Name "_law_pot_here" pos) (tVar 0) := pe_var (by rw [hN]; rfl) (.inl (kl_L_twice_0 h))
theorem kl_L_twice_1 {X : Cx} (h : X.env.scope = defScope s_L_twice) : X.env.scope.names.lookup ("_law_head_here" : Str) = some .local := by rw [h]; decide +kernel
theorem nv_L_twice_1 {X : Cx} {pos : Pos} (hN : X.N = N_L_twice) (h : X.env.scope = defScope s_L_twice) : PE X (.Name "_law_head_here" pos) (tVar 1) := pe_var (by rw [hN]; rfl) (.inl (kl_L_twice_1 h))
theorem kl_L_twice_2 {X : Cx} (h : X.env.scope = defScope s_L_twice) : X.env.scope.names.lookup ("_law_tail_here" : Str) = some .local := by rw [h]; decide +kernel
theorem nv_L_twice_2 {X : Cx} {pos : Pos} (hN : X.N = N_L_twice) (h : X.env.scope = defScope s_L_twice) : PE X (.Name "_law_tail_here" pos) (tVar 2) := pe_var (by rw [hN]; rfl) (.inl (kl_L_twice_2 h))
theorem kl_L_twice_3 {X : Cx} (h : X.env.scope = defScope s_L_twice) : X.env.scope.names.lookup ("_law_way" : Str) = some .local := by rw [h]; decide +kernel
theorem lc_L_twice_3 {X : Cx} (h : X.env.scope = defScope s_L_twice) : Loc X.env.scope "_law_way" := .inl (kl_L_twice_3 h)
theorem nv_L_twice_3 {X : Cx} {pos : Pos} (hN : X.N = N_L_twice) (h : X.env.scope = defScope s_L_twice) : PE X (.Name "_law_way" pos) (tVar 3) := pe_var (by rw [hN]; rfl) (.inl (kl_L_twice_3 h))
theorem kl_L_twice_4 {X : Cx} (h : X.env.scope = defScope s_L_twice) : X.env.scope.names.lookup ("_law_at" : Str) = some .local := by rw [h]; decide +kernel
theorem lc_L_twice_4 {X : Cx} (h : X.env.scope = defScope s_L_twice) : Loc X.env.scope "_law_at" := .inl (kl_L_twice_4 h)
theorem nv_L_twice_4 {X : Cx} {pos : Pos} (hN : X.N = N_L_twice) (h : X.env.scope = defScope s_L_twice) : PE X (.Name "_law_at" pos) (tVar 4) := pe_var (by rw [hN]; rfl) (.inl (kl_L_twice_4 h))
theorem kl_L_twice_5 {X : Cx} (h : X.env.scope = defScope s_L_twice) : X.env.scope.names.lookup ("_law_letter" : Str) = some .local := by rw [h]; decide +kernel
theorem lc_L_twice_5 {X : Cx} (h : X.env.scope = defScope s_L_twice) : Loc X.env.scope "_law_letter" := .inl (kl_L_twice_5 h)
theorem nv_L_twice_5 {X : Cx} {pos : Pos} (hN : X.N = N_L_twice) (h : X.env.scope = defScope s_L_twice) : PE X (.Name "_law_letter" pos) (tVar 5) := pe_var (by rw [hN]; rfl) (.inl (kl_L_twice_5 h))
theorem kl_L_twice_6 {X : Cx} (h : X.env.scope = defScope s_L_twice) : X.env.scope.names.lookup ("_law_first" : Str) = some .local := by rw [h]; decide +kernel
theorem lc_L_twice_6 {X : Cx} (h : X.env.scope = defScope s_L_twice) : Loc X.env.scope "_law_first" := .inl (kl_L_twice_6 h)
theorem nv_L_twice_6 {X : Cx} {pos : Pos} (hN : X.N = N_L_twice) (h : X.env.scope = defScope s_L_twice) : PE X (.Name "_law_first" pos) (tVar 6) := pe_var (by rw [hN]; rfl) (.inl (kl_L_twice_6 h))
theorem kl_L_twice_7 {X : Cx} (h : X.env.scope = defScope s_L_twice) : X.env.scope.names.lookup ("_law_step" : Str) = some .local := by rw [h]; decide +kernel
theorem lc_L_twice_7 {X : Cx} (h : X.env.scope = defScope s_L_twice) : Loc X.env.scope "_law_step" := .inl (kl_L_twice_7 h)
theorem nv_L_twice_7 {X : Cx} {pos : Pos} (hN : X.N = N_L_twice) (h : X.env.scope = defScope s_L_twice) : PE X (.Name "_law_step" pos) (tVar 7) := pe_var (by rw [hN]; rfl) (.inl (kl_L_twice_7 h))
theorem kl_L_twice_8 {X : Cx} (h : X.env.scope = defScope s_L_twice) : X.env.scope.names.lookup ("_law_turn" : Str) = some .local := by rw [h]; decide +kernel
theorem lc_L_twice_8 {X : Cx} (h : X.env.scope = defScope s_L_twice) : Loc X.env.scope "_law_turn" := .inl (kl_L_twice_8 h)
theorem nv_L_twice_8 {X : Cx} {pos : Pos} (hN : X.N = N_L_twice) (h : X.env.scope = defScope s_L_twice) : PE X (.Name "_law_turn" pos) (tVar 8) := pe_var (by rw [hN]; rfl) (.inl (kl_L_twice_8 h))
theorem gl_L_twice_L_digit {X : Cx} (h : X.env.scope = defScope s_L_twice) : Gl X "_law_digit" := by unfold Gl PySem.Env.kindOf; rw [h]; decide +kernel
theorem gl_L_twice_L_met {X : Cx} (h : X.env.scope = defScope s_L_twice) : Gl X "_law_met" := by unfold Gl PySem.Env.kindOf; rw [h]; decide +kernel
theorem gl_L_twice_len {X : Cx} (h : X.env.scope = defScope s_L_twice) : Gl X "len" := by unfold Gl PySem.Env.kindOf; rw [h]; decide +kernel
theorem gl_L_twice_max {X : Cx} (h : X.env.scope = defScope s_L_twice) : Gl X "max" := by unfold Gl PySem.Env.kindOf; rw [h]; decide +kernel
theorem der_L_twice {P : Program} {w : World} {K : PySem.W.Frag} {mg : Str → Option Value} {base : Heap} {cc : Cl} (bn : Bn mg) (cn : Cn mg) (ce : Ce K mg cc) {fa_L_digit : Addr} {fd_L_digit : FuncData} (I_L_digit : FnI P w K mg base "_law_digit" 1 ["_law_pot_here", "_law_many"] (spM (GG K cc) XR0 2 P_L_digit) fa_L_digit fd_L_digit) {fa_L_met : Addr} {fd_L_met : FuncData} (I_L_met : FnI P w K mg base "_law_met" 2 ["_law_pot_here", "_law_letter", "_law_number_here"] (spM (GG K cc) XR0 3 P_L_met) fa_L_met fd_L_met) {f : Addr} (cdv : Value) (A : Around) (outer : List PySem.Env) (s : Shared) (H : Hp) (E : XK) (hr : Room 2 (A.deeper (envOfC "_law_twice" (defScope s_L_twice) s.heap.objs.size f cdv))) (hg : A.guards = some []) :
    PSs (cxOf (L2.CX P w) P w K mg base N_L_twice "_law_twice" (defScope s_L_twice) f cdv A outer s H E) (defBody s_L_twice) (tEx (GG K cc) XR0 (fun c d _ H => E c d H) [0] g_L_twice) := by
  have B : Bx (GG K cc) (fun c d _ H => E c d H) 2 (cxOf (L2.CX P w) P w K mg base N_L_twice "_law_twice" (defScope s_L_twice) f cdv A outer s H E) := Bx.of rfl sc_L_twice.nd hr hg
  unfold g_L_twice
  exact (es_cons (es_set (i := 3) B.nd rfl (lc_L_twice_3 rfl) (ev_callM I_L_digit.fn (B.room.mono (by decide)) B.gu B.tk (gl_L_twice_L_digit rfl) I_L_digit.mg I_L_digit.kp I_L_digit.bd (nv_L_twice_0 rfl rfl) (ea_cons ev_int ea_nil))) (es_cons (es_set (i := 4) B.nd rfl (lc_L_twice_4 rfl) (ev_callM I_L_digit.fn (B.room.mono (by decide)) B.gu B.tk (gl_L_twice_L_digit rfl) I_L_digit.mg I_L_digit.kp I_L_digit.bd (nv_L_twice_0 rfl rfl) (ea_cons (ev_callB2 (call_max2 B.calm) o_max (gl_L_twice_max rfl) bn.b_max (by decide +kernel) ev_int (ev_callB1 call_lenAll o_len (gl_L_twice_len rfl) bn.b_len (by decide +kernel) (ev_name (nv_L_twice_2 rfl rfl)))) ea_nil))) (es_cons (es_if (PW.pt (ew_and (et_cmp (op_eqT B.un64) o_eq (ev_name (nv_L_twice_3 rfl rfl)) ev_int (nomark _)) (ew_and1 (et_cmp (op_neT B.un64) o_ne (ev_name (nv_L_twice_1 rfl rfl)) (ev_tup ea_nil) (nomark _))))) (es_one (es_ret (ev_tup (ea_cons (ev_op op_addAll o_add (ev_name (nv_L_twice_1 rfl rfl)) (ev_slice B.kk (ev_slice B.kk (ev_name (nv_L_twice_1 rfl rfl)) (eo_some (ev_callM I_L_digit.fn (B.room.mono (by decide)) B.gu B.tk (gl_L_twice_L_digit rfl) I_L_digit.mg I_L_digit.kp I_L_digit.bd (nv_L_twice_0 rfl rfl) (ea_cons (ev_callB1 call_lenAll o_len (gl_L_twice_len rfl) bn.b_len (by decide +kernel) (ev_name (nv_L_twice_1 rfl rfl))) ea_nil))) eo_none) eo_none (eo_some ev_int))) (ea_cons (ev_name (nv_L_twice_2 rfl rfl)) ea_nil))))) es_nil) (es_cons (es_if (PW.pt (ew_and (et_cmp op_lt o_lt (ev_name (nv_L_twice_3 rfl rfl)) ev_int (nomark _)) (ew_and1 (et_cmp (op_neT B.un64) o_ne (ev_name (nv_L_twice_2 rfl rfl)) (ev_tup ea_nil) (nomark _))))) (es_cons (es_asg (ev_ix ix_seq o_ix (ev_name (nv_L_twice_2 rfl rfl)) (ev_name (nv_L_twice_4 rfl rfl)) (fun _ _ => rfl)) (eg_tup B.calm B.kk (egs_cons (eg_name (pg_name (i := 5) B.nd rfl (lc_L_twice_5 rfl))) (egs_cons (eg_name (pg_name (i := 6) B.nd rfl (lc_L_twice_6 rfl))) (egs_cons (eg_name (pg_name (i := 7) B.nd rfl (lc_L_twice_7 rfl))) egs_nil))))) (es_cons (es_set (i := 8) B.nd rfl (lc_L_twice_8 rfl) (ev_callM I_L_digit.fn (B.room.mono (by decide)) B.gu B.tk (gl_L_twice_L_digit rfl) I_L_digit.mg I_L_digit.kp I_L_digit.bd (nv_L_twice_0 rfl rfl) (ea_cons (ev_ix ix_seq o_ix (ev_lst (ea_cons ev_int (ea_cons (ev_op op_pow o_pow ev_int ev_int) ea_nil))) (ev_callM I_L_digit.fn (B.room.mono (by decide)) B.gu B.tk (gl_L_twice_L_digit rfl) I_L_digit.mg I_L_digit.kp I_L_digit.bd (nv_L_twice_0 rfl rfl) (ea_cons ev_int ea_nil)) (fun _ _ => rfl)) ea_nil))) (es_cons (es_if (et_cmp (op_eqT B.un64) o_eq (ev_name (nv_L_twice_3 rfl rfl)) ev_int (nomark _)) (es_one (es_ret (ev_tup (ea_cons (ev_op op_addAll o_add (ev_tup (ea_cons (ev_tup (ea_cons (ev_name (nv_L_twice_5 rfl rfl)) (ea_cons (ev_op op_addAll o_add (ev_name (nv_L_twice_6 rfl rfl)) (ev_op op_mulW o_mul (ev_name (nv_L_twice_8 rfl rfl)) (ev_name (nv_L_twice_7 rfl rfl)))) ea_nil))) ea_nil)) (ev_name (nv_L_twice_1 rfl rfl))) (ea_cons (ev_name (nv_L_twice_2 rfl rfl)) ea_nil))))) es_nil) (es_cons (es_if (et_cmp (op_eqT B.un64) o_eq (ev_name (nv_L_twice_3 rfl rfl)) ev_int (nomark _)) (es_one (es_ret (ev_tup (ea_cons (ev_name (nv_L_twice_1 rfl rfl)) (ea_cons (ev_op op_addAll o_add (ev_name (nv_L_twice_2 rfl rfl)) (ev_slice B.kk (ev_name (nv_L_twice_2 rfl rfl)) (eo_some (ev_name (nv_L_twice_4 rfl rfl))) (eo_some (ev_op op_addAll o_add (ev_name (nv_L_twice_4 rfl rfl)) ev_int)))) ea_nil))))) es_nil) (es_one (es_ret (ev_tup (ea_cons (ev_name (nv_L_twice_1 rfl rfl)) (ea_cons (ev_op op_addAll o_add (ev_tup (ea_cons (ev_callM I_L_met.fn (B.room.mono (by decide)) B.gu B.tk (gl_L_twice_L_met rfl) I_L_met.mg I_L_met.kp I_L_met.bd (nv_L_twice_0 rfl rfl) (ea_cons (ev_name (nv_L_twice_5 rfl rfl)) (ea_cons (ev_op op_addAll o_add (ev_name (nv_L_twice_6 rfl rfl)) (ev_op op_mulW o_mul (ev_name (nv_L_twice_8 rfl rfl)) (ev_name (nv_L_twice_7 rfl rfl)))) ea_nil))) ea_nil)) (ev_name (nv_L_twice_2 rfl rfl))) ea_nil))))))))) es_nil) (es_one (es_ret (ev_tup (ea_cons (ev_name (nv_L_twice_1 rfl rfl)) (ea_cons (ev_name (nv_L_twice_2 rfl rfl)) ea_nil)))))))))
abbrev s_L_whole : Stmt := topS 41
abbrev N_L_whole : List Str := ["_law_pot_here", "_law_head_here", "_law_tail_here", "_law_some"]
theorem sc_L_whole : FnScope N_L_whole ["_law_pot_here", "_law_head_here", "_law_tail_here"] (defScope s_L_whole) := ⟨rfl, rfl, rfl, by decide +kernel, rfl, by decide +kernel, by decide +kernel⟩
theorem kl_L_whole_0 {X : Cx} (h : X.env.scope = defScope s_L_whole) : X.env.scope.names.lookup ("_law_pot_here" : Str) = some .local := by rw [h]; decide +kernel
theorem nv_L_whole_0 {X : Cx} {pos : Pos} (hN : X.N = N_L_whole) (h : X.env.scope = defScope s_L_whole) : PE X (.Name "_law_pot_here" pos) (tVar 0) := pe_var (by rw [hN]; rfl) (.inl (kl_L_whole_0 h))
theorem kl_L_whole_1 {X : Cx} (h : X.env.scope = defScope s_L_whole) : X.env.scope.names.lookup ("_law_head_here" : Str) = some .local := by rw [h]; decide +kernel
theorem nv_L_whole_1 {X : Cx} {pos : Pos} (hN : X.N = N_L_whole) (h : X.env.scope = defScope s_L_whole) : PE X (.Name "_law_head_here" pos) (tVar 1) := pe_var (by rw [hN]; rfl) (.inl (kl_L_whole_1 h))
theorem kl_L_whole_2 {X : Cx} (h : X.env.scope = defScope s_L_whole) : X.env.scope.names.lookup ("_law_tail_here" : Str) = some .local := by rw [h]; decide +kernel
theorem nv_L_whole_2 {X : Cx} {pos : Pos} (hN : X.N = N_L_whole) (h : X.env.scope = defScope s_L_whole) : PE X (.Name "_law_tail_here" pos) (tVar 2) := pe_var (by rw [hN]; rfl) (.inl (kl_L_whole_2 h))
theorem kl_L_whole_3 {X : Cx} (h : X.env.scope = defScope s_L_whole) : X.env.scope.names.lookup ("_law_some" : Str) = some .local := by rw [h]; decide +kernel
theorem lc_L_whole_3 {X : Cx} (h : X.env.scope = defScope s_L_whole) : Loc X.env.scope "_law_some" := .inl (kl_L_whole_3 h)
theorem nv_L_whole_3 {X : Cx} {pos : Pos} (hN : X.N = N_L_whole) (h : X.env.scope = defScope s_L_whole) : PE X (.Name "_law_some" pos) (tVar 3) := pe_var (by rw [hN]; rfl) (.inl (kl_L_whole_3 h))
theorem gl_L_whole_L_digit {X : Cx} (h : X.env.scope = defScope s_L_whole) : Gl X "_law_digit" := by unfold Gl PySem.Env.kindOf; rw [h]; decide +kernel
theorem der_L_whole {P : Program} {w : World} {K : PySem.W.Frag} {mg : Str → Option Value} {base : Heap} {cc : Cl} (bn : Bn mg) (cn : Cn mg) (ce : Ce K mg cc) {fa_L_digit : Addr} {fd_L_digit : FuncData} (I_L_digit : FnI P w K mg base "_law_digit" 1 ["_law_pot_here", "_law_many"] (spM (GG K cc) XR0 2 P_L_digit) fa_L_digit fd_L_digit) {f : Addr} (cdv : Value) (A : Around) (outer : List PySem.Env) (s : Shared) (H : Hp) (E : XK) (hr : Room 1 (A.deeper (envOfC "_law_whole" (defScope s_L_whole) s.heap.objs.size f cdv))) (hg : A.guards = some []) :
    PSs (cxOf (L2.CX P w) P w K mg base N_L_whole "_law_whole" (defScope s_L_whole) f cdv A outer s H E) (defBody s_L_whole) (tEx (GG K cc) XR0 (fun c d _ H => E c d H) [0] g_L_whole) := by
  have B : Bx (GG K cc) (fun c d _ H => E c d H) 1 (cxOf (L2.CX P w) P w K mg base N_L_whole "_law_whole" (defScope s_L_whole) f cdv A outer s H E) := Bx.of rfl sc_L_whole.nd hr hg
  unfold g_L_whole
  exact (es_cons (es_set (i := 3) B.nd rfl (lc_L_whole_3 rfl) (ev_lst (ea_cons (ev_lst (ea_cons (ev_name (nv_L_whole_1 rfl rfl)) (ea_cons (ev_name (nv_L_whole_2 rfl rfl)) ea_nil))) (ea_cons (ev_tup (ea_cons (ev_name (nv_L_whole_1 rfl rfl)) ea_nil)) (ea_cons (ev_tup (ea_cons (ev_name (nv_L_whole_1 rfl rfl)) (ea_cons (ev_name (nv_L_whole_2 rfl rfl)) (ea_cons (ev_tup ea_nil) ea_nil)))) (ea_cons ev_non (ea_cons (ev_tup ea_nil) (ea_cons ev_str (ea_cons (ev_dct2 (by decide) (nv_L_whole_1 rfl rfl) (nv_L_whole_2 rfl rfl)) (ea_cons ev_int (ea_cons (ev_tup (ea_cons (ev_name (nv_L_whole_1 rfl rfl)) (ea_cons (ev_name (nv_L_whole_2 rfl rfl)) (ea_cons (ev_name (nv_L_whole_1 rfl rfl)) (ea_cons (ev_name (nv_L_whole_2 rfl rfl)) ea_nil))))) ea_nil))))))))))) (es_cons (es_if (et_cmp (op_eqT B.un64) o_eq (ev_callM I_L_digit.fn (B.room.mono (by decide)) B.gu B.tk (gl_L_whole_L_digit rfl) I_L_digit.mg I_L_digit.kp I_L_digit.bd (nv_L_whole_0 rfl rfl) (ea_cons ev_int ea_nil)) ev_int (nomark _)) (es_one (es_ret (ev_ix ix_seq o_ix (ev_name (nv_L_whole_3 rfl rfl)) (ev_callM I_L_digit.fn (B.room.mono (by decide)) B.gu B.tk (gl_L_whole_L_digit rfl) I_L_digit.mg I_L_digit.kp I_L_digit.bd (nv_L_whole_0 rfl rfl) (ea_cons ev_int ea_nil)) (fun _ _ => rfl)))) es_nil) (es_one (es_ret (ev_tup (ea_cons (ev_name (nv_L_whole_1 rfl rfl)) (ea_cons (ev_name (nv_L_whole_2 rfl rfl)) ea_nil)))))))
abbrev s_L_due : Stmt := topS 42
abbrev N_L_due : List Str := ["_law_thing", "_law_whole_here", "_law_bent", "_law_twice_here"]
theorem sc_L_due : FnScope N_L_due ["_law_thing", "_law_whole_here", "_law_bent", "_law_twice_here"] (defScope s_L_due) := ⟨rfl, rfl, rfl, by decide +kernel, rfl, by decide +kernel, by decide +kernel⟩
theorem kl_L_due_0 {X : Cx} (h : X.env.scope = defScope s_L_due) : X.env.scope.names.lookup ("_law_thing" : Str) = some .local := by rw [h]; decide +kernel
theorem nv_L_due_0 {X : Cx} {pos : Pos} (hN : X.N = N_L_due) (h : X.env.scope = defScope s_L_due) : PE X (.Name "_law_thing" pos) (tVar 0) := pe_var (by rw [hN]; rfl) (.inl (kl_L_due_0 h))
theorem kl_L_due_1 {X : Cx} (h : X.env.scope = defScope s_L_due) : X.env.scope.names.lookup ("_law_whole_here" : Str) = some .local := by rw [h]; decide +kernel
theorem nv_L_due_1 {X : Cx} {pos : Pos} (hN : X.N = N_L_due) (h : X.env.scope = defScope s_L_due) : PE X (.Name "_law_whole_here" pos) (tVar 1) := pe_var (by rw [hN]; rfl) (.inl (kl_L_due_1 h))
theorem kl_L_due_2 {X : Cx} (h : X.env.scope = defScope s_L_due) : X.env.scope.names.lookup ("_law_bent" : Str) = some .local := by rw [h]; decide +kernel
theorem nv_L_due_2 {X : Cx} {pos : Pos} (hN : X.N = N_L_due) (h : X.env.scope = defScope s_L_due) : PE X (.Name "_law_bent" pos) (tVar 2) := pe_var (by rw [hN]; rfl) (.inl (kl_L_due_2 h))
theorem kl_L_due_3 {X : Cx} (h : X.env.scope = defScope s_L_due) : X.env.scope.names.lookup ("_law_twice_here" : Str) = some .local := by rw [h]; decide +kernel
theorem nv_L_due_3 {X : Cx} {pos : Pos} (hN : X.N = N_L_due) (h : X.env.scope = defScope s_L_due) : PE X (.Name "_law_twice_here" pos) (tVar 3) := pe_var (by rw [hN]; rfl) (.inl (kl_L_due_3 h))
theorem gl_L_due_repr {X : Cx} (h : X.env.scope = defScope s_L_due) : Gl X "repr" := by unfold Gl PySem.Env.kindOf; rw [h]; decide +kernel
theorem der_L_due {P : Program} {w : World} {K : PySem.W.Frag} {mg : Str → Option Value} {base : Heap} {cc : Cl} (bn : Bn mg) (cn : Cn mg) (ce : Ce K mg cc)  {f : Addr} (cdv : Value) (A : Around) (outer : List PySem.Env) (s : Shared) (H : Hp) (E : XK) (hr : Room 0 (A.deeper (envOfC "_law_due" (defScope s_L_due) s.heap.objs.size f cdv))) (hg : A.guards = some []) :
    PSs (cxOf (L2.CX P w) P w K mg base N_L_due "_law_due" (defScope s_L_due) f cdv A outer s H E) (defBody s_L_due) (tEx (GG K cc) XR0 (fun c d _ H => E c d H) [] g_L_due) := by
  have B : Bx (GG K cc) (fun c d _ H => E c d H) 0 (cxOf (L2.CX P w) P w K mg base N_L_due "_law_due" (defScope s_L_due) f cdv A outer s H E) := Bx.of rfl sc_L_due.nd hr hg
  unfold g_L_due
  exact (es_cons (es_if (et_cmp (op_neT B.un64) o_ne (ev_callB1 (call_reprE B.gu B.un) o_reprE (gl_L_due_repr rfl) bn.b_repr (by decide +kernel) (ev_name (nv_L_due_0 rfl rfl))) (ev_callB1 (call_reprE B.gu B.un) o_reprE (gl_L_due_repr rfl) bn.b_repr (by decide +kernel) (ev_name (nv_L_due_1 rfl rfl))) (nomark _)) (es_one (es_ret ev_str)) es_nil) (es_cons (es_if (et_cmp (op_neT B.un64) o_ne (ev_callB1 (call_reprE B.gu B.un) o_reprE (gl_L_due_repr rfl) bn.b_repr (by decide +kernel) (ev_ix ix_seq o_ix (ev_name (nv_L_due_2 rfl rfl)) ev_int (fun _ _ => rfl))) (ev_callB1 (call_reprE B.gu B.un) o_reprE (gl_L_due_repr rfl) bn.b_repr (by decide +kernel) (ev_ix ix_seq o_ix (ev_name (nv_L_due_1 rfl rfl)) ev_int (fun _ _ => rfl))) (nomark _)) (es_one (es_ret ev_str)) es_nil) (es_cons (es_if (et_cmp (op_neT B.un64) o_ne (ev_callB1 (call_reprE B.gu B.un) o_reprE (gl_L_due_repr rfl) bn.b_repr (by decide +kernel) (ev_ix ix_seq o_ix (ev_name (nv_L_due_2 rfl rfl)) ev_int (fun _ _ => rfl))) (ev_callB1 (call_reprE B.gu B.un) o_reprE (gl_L_due_repr rfl) bn.b_repr (by decide +kernel) (ev_ix ix_seq o_ix (ev_name (nv_L_due_1 rfl rfl)) ev_int (fun _ _ => rfl))) (nomark _)) (es_one (es_ret ev_str)) es_nil) (es_one (es_ret (ev_if (et_val (ev_name (nv_L_due_3 rfl rfl))) ev_str ev_non))))))
abbrev s_L_head : Stmt := topS 37
abbrev N_L_head : List Str := ["_law_pot_here", "_law_head_here", "_law_way", "_law_at", "_law_some", "_law_k"]
theorem sc_L_head : FnScope N_L_head ["_law_pot_here", "_law_head_here"] (defScope s_L_head) := ⟨rfl, rfl, rfl, by decide +kernel, rfl, by decide +kernel, by decide +kernel⟩
theorem kl_L_head_0 {X : Cx} (h : X.env.scope = defScope s_L_head) : X.env.scope.names.lookup ("_law_pot_here" : Str) = some .local := by rw [h]; decide +kernel
theorem nv_L_head_0 {X : Cx} {pos : Pos} (hN : X.N = N_L_head) (h : X.env.scope = defScope s_L_head) : PE X (.Name "_law_pot_here" pos) (tVar 0) := pe_var (by rw [hN]; rfl) (.inl (kl_L_head_0 h))
theorem kl_L_head_1 {X : Cx} (h : X.env.scope = defScope s_L_head) : X.env.scope.names.lookup ("_law_head_here" : Str) = some .local := by rw [h]; decide +kernel
theorem nv_L_head_1 {X : Cx} {pos : Pos} (hN : X.N = N_L_head) (h : X.env.scope = defScope s_L_head) : PE X (.Name "_law_head_here" pos) (tVar 1) := pe_var (by rw [hN]; rfl) (.inl (kl_L_head_1 h))
theorem kl_L_head_2 {X : Cx} (h : X.env.scope = defScope s_L_head) : X.env.scope.names.lookup ("_law_way" : Str) = some .local := by rw [h]; decide +kernel
theorem lc_L_head_2 {X : Cx} (h : X.env.scope = defScope s_L_head) : Loc X.env.scope "_law_way" := .inl (kl_L_head_2 h)
theorem nv_L_head_2 {X : Cx} {pos : Pos} (hN : X.N = N_L_head) (h : X.env.scope = defScope s_L_head) : PE X (.Name "_law_way" pos) (tVar 2) := pe_var (by rw [hN]; rfl) (.inl (kl_L_head_2 h))
theorem kl_L_head_3 {X : Cx} (h : X.env.scope = defScope s_L_head) : X.env.scope.names.lookup ("_law_at" : Str) = some .local := by rw [h]; decide +kernel
theorem lc_L_head_3 {X : Cx} (h : X.env.scope = defScope s_L_head) : Loc X.env.scope "_law_at" := .inl (kl_L_head_3 h)
theorem nv_L_head_3 {X : Cx} {pos : Pos} (hN : X.N = N_L_head) (h : X.env.scope = defScope s_L_head) : PE X (.Name "_law_at" pos) (tVar 3) := pe_var (by rw [hN]; rfl) (.inl (kl_L_head_3 h))
theorem kl_L_head_4 {X : Cx} (h : X.env.scope = defScope s_L_head) : X.env.scope.names.lookup ("_law_some" : Str) = some .local := by rw [h]; decide +kernel
theorem lc_L_head_4 {X : Cx} (h : X.env.scope = defScope s_L_head) : Loc X.env.scope "_law_some" := .inl (kl_L_head_4 h)
theorem nv_L_head_4 {X : Cx} {pos : Pos} (hN : X.N = N_L_head) (h : X.env.scope = defScope s_L_head) : PE X (.Name "_law_some" pos) (tVar 4) := pe_var (by rw [hN]; rfl) (.inl (kl_L_head_4 h))
theorem gl_L_head_L_digit {X : Cx} (h : X.env.scope = defScope s_L_head) : Gl X "_law_digit" := by unfold Gl PySem.Env.kindOf; rw [h]; decide +kernel
theorem gl_L_head_len {X : Cx} (h : X.env.scope = defScope s_L_head) : Gl X "len" := by unfold Gl PySem.Env.kindOf; rw [h]; decide +kernel
theorem gl_L_head_list {X : Cx} (h : X.env.scope = defScope s_L_head) : Gl X "list" := by unfold Gl PySem.Env.kindOf; rw [h]; decide +kernel
theorem gl_L_head_range {X : Cx} (h : X.env.scope = defScope s_L_head) : Gl X "range" := by unfold Gl PySem.Env.kindOf; rw [h]; decide +kernel
theorem gl_L_head_tuple {X : Cx} (h : X.env.scope = defScope s_L_head) : Gl X "tuple" := by unfold Gl PySem.Env.kindOf; rw [h]; decide +kernel
theorem der_L_head {P : Program} {w : World} {K : PySem.W.Frag} {mg : Str → Option Value} {base : Heap} {cc : Cl} (bn : Bn mg) (cn : Cn mg) (ce : Ce K mg cc) {fa_L_digit : Addr} {fd_L_digit : FuncData} (I_L_digit : FnI P w K mg base "_law_digit" 1 ["_law_pot_here", "_law_many"] (spM (GG K cc) XR0 2 P_L_digit) fa_L_digit fd_L_digit) {f : Addr} (cdv : Value) (A : Around) (outer : List PySem.Env) (s : Shared) (H : Hp) (E : XK) (hr : Room 1 (A.deeper (envOfC "_law_head" (defScope s_L_head) s.heap.objs.size f cdv))) (hg : A.guards = some []) :
    PSs (cxOf (L2.CX P w) P w K mg base N_L_head "_law_head" (defScope s_L_head) f cdv A outer s H E) (defBody s_L_head) (tEx (GG K cc) XR0 (fun c d _ H => E c d H) [0] g_L_head) := by
  have B : Bx (GG K cc) (fun c d _ H => E c d H) 1 (cxOf (L2.CX P w) P w K mg base N_L_head "_law_head" (defScope s_L_head) f cdv A outer s H E) := Bx.of rfl sc_L_head.nd hr hg
  unfold g_L_head ce_L_head_1 cc_L_head_1 ct_L_head_1
  exact (es_cons (es_set (i := 2) B.nd rfl (lc_L_head_2 rfl) (ev_callM I_L_digit.fn (B.room.mono (by decide)) B.gu B.tk (gl_L_head_L_digit rfl) I_L_digit.mg I_L_digit.kp I_L_digit.bd (nv_L_head_0 rfl rfl) (ea_cons ev_int ea_nil))) (es_cons (es_set (i := 3) B.nd rfl (lc_L_head_3 rfl) (ev_callM I_L_digit.fn (B.room.mono (by decide)) B.gu B.tk (gl_L_head_L_digit rfl) I_L_digit.mg I_L_digit.kp I_L_digit.bd (nv_L_head_0 rfl rfl) (ea_cons (ev_op op_addAll o_add (ev_callB1 call_lenAll o_len (gl_L_head_len rfl) bn.b_len (by decide +kernel) (ev_name (nv_L_head_1 rfl rfl))) ev_int) ea_nil))) (es_cons (es_set (i := 4) B.nd rfl (lc_L_head_4 rfl) (ev_lst (ea_cons ev_non (ea_cons ev_bl (ea_cons ev_str (ea_cons (ev_tup ea_nil) (ea_cons (ev_lst ea_nil) (ea_cons (ev_tup (ea_cons ev_str (ea_cons (ev_un un_neg o_neg ev_int) ea_nil))) (ea_cons (ev_tup (ea_cons ev_str (ea_cons ev_int ea_nil))) (ea_cons (ev_tup (ea_cons ev_str (ea_cons ev_int ea_nil))) (ea_cons (ev_lst (ea_cons ev_str (ea_cons ev_int ea_nil))) (ea_cons (ev_tup (ea_cons ev_str (ea_cons ev_str ea_nil))) (ea_cons (ev_tup (ea_cons ev_str (ea_cons ev_bl ea_nil))) (ea_cons (ev_tup (ea_cons ev_str (ea_cons ev_int ea_nil))) (ea_cons (ev_tup (ea_cons ev_str ea_nil)) ea_nil))))))))))))))) (es_cons (es_set (i := 4) B.nd rfl (lc_L_head_4 rfl) (ev_op op_addAll o_add (ev_name (nv_L_head_4 rfl rfl)) (ev_lst (ea_cons (ev_tup (ea_cons ev_str (ea_cons ev_int (ea_cons ev_int ea_nil)))) (ea_cons (ev_tup (ea_cons ev_str (ea_cons ev_non ea_nil))) (ea_cons ev_int (ea_cons ev_dct0 (ea_cons (ev_tup (ea_cons ev_int (ea_cons ev_str ea_nil))) ea_nil)))))))) (es_cons (es_if (et_cmp (op_eqT B.un64) o_eq (ev_name (nv_L_head_2 rfl rfl)) ev_int (nomark _)) (es_one (es_ret (ev_callT1 (call_listA B.calm) o_listA (gl_L_head_list rfl) bn.b_list (by decide +kernel) (ev_name (nv_L_head_1 rfl rfl))))) es_nil) (es_cons (es_if (et_cmp (op_eqT B.un64) o_eq (ev_name (nv_L_head_2 rfl rfl)) ev_int (nomark _)) (es_one (es_ret (ev_callT1 call_tupleF o_tuple (gl_L_head_tuple rfl) bn.b_tuple (by decide +kernel) (ev_lc B.calm B.nd (ei_range1 (gl_L_head_range rfl) bn.b_range (ea_cons ev_int ea_nil)) (blkOk_by (N := N_L_head) (sc := defScope s_L_head) (own := [("_law_k", 5)]) (by decide +kernel)) (fun s1 H1 C1 cl1 fp1 => (eg_name (pg_name (i := 5) (B.blk s1 H1 _ _ fp1).nd rfl (.inl (by kernel_rfl))))) (fun s1 H1 C1 cl1 fp1 => ets_nil) (fun s1 H1 C1 cl1 fp1 => (ev_tup (ea_cons ev_str (ea_cons (ev_op op_addAll o_add ev_int (ev_name (pe_var (i := 5) rfl (.inl (by kernel_rfl))))) ea_nil)))) (show ∀ j, j < 6 → j ∉ [5] → j ∈ [0, 1, 2, 3, 4] by decide))))) es_nil) (es_cons (es_if (et_cmp op_lt o_lt (ev_name (nv_L_head_2 rfl rfl)) ev_int (nomark _)) (es_one (es_ret (ev_op op_addAll o_add (ev_op op_addAll o_add (ev_slice B.kk (ev_name (nv_L_head_1 rfl rfl)) eo_none (eo_some (ev_name (nv_L_head_3 rfl rfl)))) (ev_tup (ea_cons (ev_ix ix_seq o_ix (ev_name (nv_L_head_4 rfl rfl)) (ev_callM I_L_digit.fn (B.room.mono (by decide)) B.gu B.tk (gl_L_head_L_digit rfl) I_L_digit.mg I_L_digit.kp I_L_digit.bd (nv_L_head_0 rfl rfl) (ea_cons ev_int ea_nil)) (fun _ _ => rfl)) ea_nil))) (ev_slice B.kk (ev_name (nv_L_head_1 rfl rfl)) (eo_some (ev_op op_sub o_sub (ev_op op_addAll o_add (ev_name (nv_L_head_3 rfl rfl)) (ev_name (nv_L_head_2 rfl rfl))) ev_int)) eo_none)))) es_nil) (es_one (es_ret (ev_name (nv_L_head_1 rfl rfl)))))))))))
abbrev s_L_tail : Stmt := topS 38
abbrev N_L_tail : List Str := ["_law_pot_here", "_law_tail_here", "_law_way", "_law_at", "_law_some", "_law_k"]
theorem sc_L_tail : FnScope N_L_tail ["_law_pot_here", "_law_tail_here"] (defScope s_L_tail) := ⟨rfl, rfl, rfl, by decide +kernel, rfl, by decide +kernel, by decide +kernel⟩
theorem kl_L_tail_0 {X : Cx} (h : X.env.scope = defScope s_L_tail) : X.env.scope.names.lookup ("_law_pot_here" : Str) = some .local := by rw [h]; decide +kernel
theorem nv_L_tail_0 {X : Cx} {pos : Pos} (hN : X.N = N_L_tail) (h : X.env.scope = defScope s_L_tail) : PE X (.Name "_law_pot_here" pos) (tVar 0) := pe_var (by rw [hN]; rfl) (.inl (kl_L_tail_0 h))
theorem kl_L_tail_1 {X : Cx} (h : X.env.scope = defScope s_L_tail) : X.env.scope.names.lookup ("_law_tail_here" : Str) = some .local := by rw [h]; decide +kernel
theorem nv_L_tail_1 {X : Cx} {pos : Pos} (hN : X.N = N_L_tail) (h : X.env.scope = defScope s_L_tail) : PE X (.Name "_law_tail_here" pos) (tVar 1) := pe_var (by rw [hN]; rfl) (.inl (kl_L_tail_1 h))
theorem kl_L_tail_2 {X : Cx} (h : X.env.scope = defScope s_L_tail) : X.env.scope.names.lookup ("_law_way" : Str) = some .local := by rw [h]; decide +kernel
theorem lc_L_tail_2 {X : Cx} (h : X.env.scope = defScope s_L_tail) : Loc X.env.scope "_law_way" := .inl (kl_L_tail_2 h)
theorem nv_L_tail_2 {X : Cx} {pos : Pos} (hN : X.N = N_L_tail) (h : X.env.scope = defScope s_L_tail) : PE X (.Name "_law_way" pos) (tVar 2) := pe_var (by rw [hN]; rfl) (.inl (kl_L_tail_2 h))
theorem kl_L_tail_3 {X : Cx} (h : X.env.scope = defScope s_L_tail) : X.env.scope.names.lookup ("_law_at" : Str) = some .local := by rw [h]; decide +kernel
theorem lc_L_tail_3 {X : Cx} (h : X.env.scope = defScope s_L_tail) : Loc X.env.scope "_law_at" := .inl (kl_L_tail_3 h)
theorem nv_L_tail_3 {X : Cx} {pos : Pos} (hN : X.N = N_L_tail) (h : X.env.scope = defScope s_L_tail) : PE X (.Name "_law_at" pos) (tVar 3) := pe_var (by rw [hN]; rfl) (.inl (kl_L_tail_3 h))
theorem kl_L_tail_4 {X : Cx} (h : X.env.scope = defScope s_L_tail) : X.env.scope.names.lookup ("_law_some" : Str) = some .local := by rw [h]; decide +kernel
theorem lc_L_tail_4 {X : Cx} (h : X.env.scope = defScope s_L_tail) : Loc X.env.scope "_law_some" := .inl (kl_L_tail_4 h)
theorem nv_L_tail_4 {X : Cx} {pos : Pos} (hN : X.N = N_L_tail) (h : X.env.scope = defScope s_L_tail) : PE X (.Name "_law_some" pos) (tVar 4) := pe_var (by rw [hN]; rfl) (.inl (kl_L_tail_4 h))
theorem gl_L_tail_L_digit {X : Cx} (h : X.env.scope = defScope s_L_tail) : Gl X "_law_digit" := by unfold Gl PySem.Env.kindOf; rw [h]; decide +kernel
theorem gl_L_tail_len {X : Cx} (h : X.env.scope = defScope s_L_tail) : Gl X "len" := by unfold Gl PySem.Env.kindOf; rw [h]; decide +kernel
theorem gl_L_tail_list {X : Cx} (h : X.env.scope = defScope s_L_tail) : Gl X "list" := by unfold Gl PySem.Env.kindOf; rw [h]; decide +kernel
theorem gl_L_tail_range {X : Cx} (h : X.env.scope = defScope s_L_tail) : Gl X "range" := by unfold Gl PySem.Env.kindOf; rw [h]; decide +kernel
theorem gl_L_tail_tuple {X : Cx} (h : X.env.scope = defScope s_L_tail) : Gl X "tuple" := by unfold Gl PySem.Env.kindOf; rw [h]; decide +kernel
theorem der_L_tail {P : Program} {w : World} {K : PySem.W.Frag} {mg : Str → Option Value} {base : Heap} {cc : Cl} (bn : Bn mg) (cn : Cn mg) (ce : Ce K mg cc) {fa_L_digit : Addr} {fd_L_digit : FuncData} (I_L_digit : FnI P w K mg base "_law_digit" 1 ["_law_pot_here", "_law_many"] (spM (GG K cc) XR0 2 P_L_digit) fa_L_digit fd_L_digit) {f : Addr} (cdv : Value) (A : Around) (outer : List PySem.Env) (s : Shared) (H : Hp) (E : XK) (hr : Room 1 (A.deeper (envOfC "_law_tail" (defScope s_L_tail) s.heap.objs.size f cdv))) (hg : A.guards = some []) :
    PSs (cxOf (L2.CX P w) P w K mg base N_L_tail "_law_tail" (defScope s_L_tail) f cdv A outer s H E) (defBody s_L_tail) (tEx (GG K cc) XR0 (fun c d _ H => E c d H) [0] g_L_tail) := by
  have B : Bx (GG K cc) (fun c d _ H => E c d H) 1 (cxOf (L2.CX P w) P w K mg base N_L_tail "_law_tail" (defScope s_L_tail) f cdv A outer s H E) := Bx.of rfl sc_L_tail.nd hr hg
  unfold g_L_tail ce_L_tail_1 cc_L_tail_1 ct_L_tail_1
  exact (es_cons (es_set (i := 2) B.nd rfl (lc_L_tail_2 rfl) (ev_callM I_L_digit.fn (B.room.mono (by decide)) B.gu B.tk (gl_L_tail_L_digit rfl) I_L_digit.mg I_L_digit.kp I_L_digit.bd (nv_L_tail_0 rfl rfl) (ea_cons ev_int ea_nil))) (es_cons (es_set (i := 3) B.nd rfl (lc_L_tail_3 rfl) (ev_callM I_L_digit.fn (B.room.mono (by decide)) B.gu B.tk (gl_L_tail_L_digit rfl) I_L_digit.mg I_L_digit.kp I_L_digit.bd (nv_L_tail_0 rfl rfl) (ea_cons (ev_op op_addAll o_add (ev_callB1 call_lenAll o_len (gl_L_tail_len rfl) bn.b_len (by decide +kernel) (ev_name (nv_L_tail_1 rfl rfl))) ev_int) ea_nil))) (es_cons (es_set (i := 4) B.nd rfl (lc_L_tail_4 rfl) (ev_lst (ea_cons ev_non (ea_cons ev_bl (ea_cons ev_str (ea_cons (ev_tup ea_nil) (ea_cons (ev_lst ea_nil) (ea_cons (ev_tup (ea_cons ev_str (ea_cons (ev_un un_neg o_neg ev_int) (ea_cons ev_int ea_nil)))) (ea_cons (ev_tup (ea_cons ev_str (ea_cons ev_int (ea_cons ev_int ea_nil)))) (ea_cons (ev_tup (ea_cons ev_str (ea_cons ev_int (ea_cons ev_int ea_nil)))) (ea_cons (ev_lst (ea_cons ev_str (ea_cons ev_int (ea_cons ev_int ea_nil)))) (ea_cons (ev_tup (ea_cons ev_str (ea_cons ev_int (ea_cons ev_int ea_nil)))) (ea_cons (ev_tup (ea_cons ev_str (ea_cons ev_int (ea_cons (ev_un un_neg o_neg ev_int) ea_nil)))) ea_nil))))))))))))) (es_cons (es_set (i := 4) B.nd rfl (lc_L_tail_4 rfl) (ev_op op_addAll o_add (ev_name (nv_L_tail_4 rfl rfl)) (ev_lst (ea_cons (ev_tup (ea_cons ev_str (ea_cons ev_int ea_nil))) (ea_cons (ev_tup (ea_cons ev_str (ea_cons ev_int (ea_cons ev_bl ea_nil)))) (ea_cons (ev_tup (ea_cons ev_str (ea_cons ev_bl (ea_cons ev_int ea_nil)))) (ea_cons (ev_tup (ea_cons ev_str (ea_cons ev_int (ea_cons ev_int (ea_cons ev_int ea_nil))))) (ea_cons (ev_tup (ea_cons ev_str (ea_cons ev_str (ea_cons ev_int ea_nil)))) (ea_cons (ev_tup (ea_cons ev_int (ea_cons ev_int (ea_cons ev_str ea_nil)))) (ea_cons ev_dct0 ea_nil)))))))))) (es_cons (es_if (et_cmp (op_eqT B.un64) o_eq (ev_name (nv_L_tail_2 rfl rfl)) ev_int (nomark _)) (es_one (es_ret (ev_callT1 (call_listA B.calm) o_listA (gl_L_tail_list rfl) bn.b_list (by decide +kernel) (ev_name (nv_L_tail_1 rfl rfl))))) es_nil) (es_cons (es_if (et_cmp (op_eqT B.un64) o_eq (ev_name (nv_L_tail_2 rfl rfl)) ev_int (nomark _)) (es_one (es_ret (ev_callT1 call_tupleF o_tuple (gl_L_tail_tuple rfl) bn.b_tuple (by decide +kernel) (ev_lc B.calm B.nd (ei_range1 (gl_L_tail_range rfl) bn.b_range (ea_cons ev_int ea_nil)) (blkOk_by (N := N_L_tail) (sc := defScope s_L_tail) (own := [("_law_k", 5)]) (by decide +kernel)) (fun s1 H1 C1 cl1 fp1 => (eg_name (pg_name (i := 5) (B.blk s1 H1 _ _ fp1).nd rfl (.inl (by kernel_rfl))))) (fun s1 H1 C1 cl1 fp1 => ets_nil) (fun s1 H1 C1 cl1 fp1 => (ev_tup (ea_cons ev_str (ea_cons (ev_name (pe_var (i := 5) rfl (.inl (by kernel_rfl)))) (ea_cons ev_int ea_nil))))) (show ∀ j, j < 6 → j ∉ [5] → j ∈ [0, 1, 2, 3, 4] by decide))))) es_nil) (es_cons (es_if (et_cmp op_lt o_lt (ev_name (nv_L_tail_2 rfl rfl)) ev_int (nomark _)) (es_one (es_ret (ev_op op_addAll o_add (ev_op op_addAll o_add (ev_slice B.kk (ev_name (nv_L_tail_1 rfl rfl)) eo_none (eo_some (ev_name (nv_L_tail_3 rfl rfl)))) (ev_tup (ea_cons (ev_ix ix_seq o_ix (ev_name (nv_L_tail_4 rfl rfl)) (ev_callM I_L_digit.fn (B.room.mono (by decide)) B.gu B.tk (gl_L_tail_L_digit rfl) I_L_digit.mg I_L_digit.kp I_L_digit.bd (nv_L_tail_0 rfl rfl) (ea_cons ev_int ea_nil)) (fun _ _ => rfl)) ea_nil))) (ev_slice B.kk (ev_name (nv_L_tail_1 rfl rfl)) (eo_some (ev_op op_sub o_sub (ev_op op_addAll o_add (ev_name (nv_L_tail_3 rfl rfl)) (ev_name (nv_L_tail_2 rfl rfl))) ev_int)) eo_none)))) es_nil) (es_one (es_ret (ev_name (nv_L_tail_1 rfl rfl)))))))))))
abbrev s_is_name : Stmt := topS 9
abbrev N_is_name : List Str := ["thing", "sign"]
theorem sc_is_name : FnScope N_is_name ["thing"] (defScope s_is_name) := ⟨rfl, rfl, rfl, by decide +kernel, rfl, by decide +kernel, by decide +kernel⟩
theorem kl_is_name_0 {X : Cx} (h : X.env.scope = defScope s_is_name) : X.env.scope.names.lookup ("thing" : Str) = some .local := by rw [h]; decide +kernel
theorem nv_is_name_0 {X : Cx} {pos : Pos} (hN : X.N = N_is_name) (h : X.env.scope = defScope s_is_name) : PE X (.Name "thing" pos) (tVar 0) := pe_var (by rw [hN]; rfl) (.inl (kl_is_name_0 h))
theorem gl_is_name_LONGEST_NAME {X : Cx} (h : X.env.scope = defScope s_is_name) : Gl X "LONGEST_NAME" := by unfold Gl PySem.Env.kindOf; rw [h]; decide +kernel
theorem gl_is_name_all {X : Cx} (h : X.env.scope = defScope s_is_name) : Gl X "all" := by unfold Gl PySem.Env.kindOf; rw [h]; decide +kernel
theorem gl_is_name_isinstance {X : Cx} (h : X.env.scope = defScope s_is_name) : Gl X "isinstance" := by unfold Gl PySem.Env.kindOf; rw [h]; decide +kernel
theorem gl_is_name_len {X : Cx} (h : X.env.scope = defScope s_is_name) : Gl X "len" := by unfold Gl PySem.Env.kindOf; rw [h]; decide +kernel
theorem gl_is_name_str {X : Cx} (h : X.env.scope = defScope s_is_name) : Gl X "str" := by unfold Gl PySem.Env.kindOf; rw [h]; decide +kernel
theorem der_is_name {P : Program} {w : World} {K : PySem.W.Frag} {mg : Str → Option Value} {base : Heap} {cc : Cl} (bn : Bn mg) (cn : Cn mg) (ce : Ce K mg cc)  {f : Addr} (cdv : Value) (A : Around) (outer : List PySem.Env) (s : Shared) (H : Hp) (E : XK) (hr : Room 0 (A.deeper (envOfC "is_name" (defScope s_is_name) s.heap.objs.size f cdv))) (hg : A.guards = some []) :
    PSs (cxOf (L2.CX P w) P w K mg base N_is_name "is_name" (defScope s_is_name) f cdv A outer s H E) (defBody s_is_name) (tEx (GG K cc) XR0 (fun c d _ H => E c d H) [] g_is_name) := by
  have B : Bx (GG K cc) (fun c d _ H => E c d H) 0 (cxOf (L2.CX P w) P w K mg base N_is_name "is_name" (defScope s_is_name) f cdv A outer s H E) := Bx.of rfl sc_is_name.nd hr hg
  unfold g_is_name ce_is_name_1 cc_is_name_1 ct_is_name_1
  exact (es_cons (es_if (PW.pt (ew_or (et_not (et_val (ev_isi (k := 0) B.kk (gl_is_name_isinstance rfl) bn.b_isinstance (by decide +kernel) (gl_is_name_str rfl) bn.b_str (by decide +kernel) (ev_name (nv_is_name_0 rfl rfl))))) (ew_or1 (et_not (et_chain op_le o_le op_le o_le ev_int (ev_callB1 call_lenAll o_len (gl_is_name_len rfl) bn.b_len (by decide +kernel) (ev_name (nv_is_name_0 rfl rfl))) (cn.c_LONGEST_NAME.elim fun _ h => ev_c (pe_glob (v := .int 8) (gl_is_name_LONGEST_NAME rfl) h ⟨_, rfl⟩) (fun _ _ => rep_int)) (pt_chain op_le op_le ev_int (ev_callB1 call_lenAll o_len (gl_is_name_len rfl) bn.b_len (by decide +kernel) (ev_name (nv_is_name_0 rfl rfl))) (cn.c_LONGEST_NAME.elim fun _ h => ev_c (pe_glob (v := .int 8) (gl_is_name_LONGEST_NAME rfl) h ⟨_, rfl⟩) (fun _ _ => rep_int)))))))) (es_one (es_ret ev_bl)) es_nil) (es_one (es_ret (ev_callB1 (cr_all B.calm) o_all (gl_is_name_all rfl) bn.b_all (by decide +kernel) (ev_lc B.calm B.nd (ei_seq B.kk (ev_name (nv_is_name_0 rfl rfl))) (blkOk_by (N := N_is_name) (sc := defScope s_is_name) (own := [("sign", 1)]) (by decide +kernel)) (fun s1 H1 C1 cl1 fp1 => (eg_name (pg_name (i := 1) (B.blk s1 H1 _ _ fp1).nd rfl (.inl (by kernel_rfl))))) (fun s1 H1 C1 cl1 fp1 => ets_nil) (fun s1 H1 C1 cl1 fp1 => (ev_cmp (op_inAll (B.blk s1 H1 _ _ fp1).un65) o_in (ev_name (pe_var (i := 1) rfl (.inl (by kernel_rfl)))) (cn.c_SMALL.elim fun _ h => ev_c (pe_glob (v := .str "abcdefghijklmnopqrstuvwxyz") (by unfold Gl; kernel_rfl) h ⟨_, rfl⟩) (fun _ _ => rep_str)) (by rfl))) (show ∀ j, j < 2 → j ∉ [1] → j ∈ [0] by decide))))))
abbrev s_is_letter : Stmt := topS 10
abbrev N_is_letter : List Str := ["thing"]
theorem sc_is_letter : FnScope N_is_letter ["thing"] (defScope s_is_letter) := ⟨rfl, rfl, rfl, by decide +kernel, rfl, by decide +kernel, by decide +kernel⟩
theorem kl_is_letter_0 {X : Cx} (h : X.env.scope = defScope s_is_letter) : X.env.scope.names.lookup ("thing" : Str) = some .local := by rw [h]; decide +kernel
theorem nv_is_letter_0 {X : Cx} {pos : Pos} (hN : X.N = N_is_letter) (h : X.env.scope = defScope s_is_letter) : PE X (.Name "thing" pos) (tVar 0) := pe_var (by rw [hN]; rfl) (.inl (kl_is_letter_0 h))
theorem gl_is_letter_is_name {X : Cx} (h : X.env.scope = defScope s_is_letter) : Gl X "is_name" := by unfold Gl PySem.Env.kindOf; rw [h]; decide +kernel
theorem gl_is_letter_len {X : Cx} (h : X.env.scope = defScope s_is_letter) : Gl X "len" := by unfold Gl PySem.Env.kindOf; rw [h]; decide +kernel
theorem der_is_letter {P : Program} {w : World} {K : PySem.W.Frag} {mg : Str → Option Value} {base : Heap} {cc : Cl} (bn : Bn mg) (cn : Cn mg) (ce : Ce K mg cc) {fa_is_name : Addr} {fd_is_name : FuncData} (I_is_name : FnI P w K mg base "is_name" 1 ["thing"] (spP (GG K cc) XR0 1 P_is_name) fa_is_name fd_is_name) {f : Addr} (cdv : Value) (A : Around) (outer : List PySem.Env) (s : Shared) (H : Hp) (E : XK) (hr : Room 1 (A.deeper (envOfC "is_letter" (defScope s_is_letter) s.heap.objs.size f cdv))) (hg : A.guards = some []) :
    PSs (cxOf (L2.CX P w) P w K mg base N_is_letter "is_letter" (defScope s_is_letter) f cdv A outer s H E) (defBody s_is_letter) (tEx (GG K cc) XR0 (fun c d _ H => E c d H) [] g_is_letter) := by
  have B : Bx (GG K cc) (fun c d _ H => E c d H) 1 (cxOf (L2.CX P w) P w K mg base N_is_letter "is_letter" (defScope s_is_letter) f cdv A outer s H E) := Bx.of rfl sc_is_letter.nd hr hg
  unfold g_is_letter
  exact (es_one (es_ret (ev_and (ev_call I_is_name.fn (B.room.mono (by decide)) B.gu B.tk (gl_is_letter_is_name rfl) I_is_name.mg I_is_name.kp I_is_name.bd (ea_cons (ev_name (nv_is_letter_0 rfl rfl)) ea_nil)) (ev_one (ev_cmp (op_eqT B.un64) o_eq (ev_callB1 call_lenAll o_len (gl_is_letter_len rfl) bn.b_len (by decide +kernel) (ev_name (nv_is_letter_0 rfl rfl))) ev_int (nomark _))))))
abbrev s_is_whole : Stmt := topS 8
abbrev N_is_whole : List Str := ["thing"]
theorem sc_is_whole : FnScope N_is_whole ["thing"] (defScope s_is_whole) := ⟨rfl, rfl, rfl, by decide +kernel, rfl, by decide +kernel, by decide +kernel⟩
theorem kl_is_whole_0 {X : Cx} (h : X.env.scope = defScope s_is_whole) : X.env.scope.names.lookup ("thing" : Str) = some .local := by rw [h]; decide +kernel
theorem nv_is_whole_0 {X : Cx} {pos : Pos} (hN : X.N = N_is_whole) (h : X.env.scope = defScope s_is_whole) : PE X (.Name "thing" pos) (tVar 0) := pe_var (by rw [hN]; rfl) (.inl (kl_is_whole_0 h))
theorem gl_is_whole_bool {X : Cx} (h : X.env.scope = defScope s_is_whole) : Gl X "bool" := by unfold Gl PySem.Env.kindOf; rw [h]; decide +kernel
theorem gl_is_whole_int {X : Cx} (h : X.env.scope = defScope s_is_whole) : Gl X "int" := by unfold Gl PySem.Env.kindOf; rw [h]; decide +kernel
theorem gl_is_whole_isinstance {X : Cx} (h : X.env.scope = defScope s_is_whole) : Gl X "isinstance" := by unfold Gl PySem.Env.kindOf; rw [h]; decide +kernel
theorem der_is_whole {P : Program} {w : World} {K : PySem.W.Frag} {mg : Str → Option Value} {base : Heap} {cc : Cl} (bn : Bn mg) (cn : Cn mg) (ce : Ce K mg cc)  {f : Addr} (cdv : Value) (A : Around) (outer : List PySem.Env) (s : Shared) (H : Hp) (E : XK) (hr : Room 0 (A.deeper (envOfC "is_whole" (defScope s_is_whole) s.heap.objs.size f cdv))) (hg : A.guards = some []) :
    PSs (cxOf (L2.CX P w) P w K mg base N_is_whole "is_whole" (defScope s_is_whole) f cdv A outer s H E) (defBody s_is_whole) (tEx (GG K cc) XR0 (fun c d _ H => E c d H) [] g_is_whole) := by
  have B : Bx (GG K cc) (fun c d _ H => E c d H) 0 (cxOf (L2.CX P w) P w K mg base N_is_whole "is_whole" (defScope s_is_whole) f cdv A outer s H E) := Bx.of rfl sc_is_whole.nd hr hg
  unfold g_is_whole
  exact (es_one (es_ret (ev_and (ev_isi (k := 0) B.kk (gl_is_whole_isinstance rfl) bn.b_isinstance (by decide +kernel) (gl_is_whole_int rfl) bn.b_int (by decide +kernel) (ev_name (nv_is_whole_0 rfl rfl))) (ev_and (ev_not (ev_isi (k := 0) B.kk (gl_is_whole_isinstance rfl) bn.b_isinstance (by decide +kernel) (gl_is_whole_bool rfl) bn.b_bool (by decide +kernel) (ev_name (nv_is_whole_0 rfl rfl)))) (ev_one (ev_cmp op_ge o_ge (ev_name (nv_is_whole_0 rfl rfl)) ev_int (nomark _)))))))
abbrev s_is_ticket : Stmt := topS 11
abbrev N_is_ticket : List Str := ["thing", "letter", "number"]
theorem sc_is_ticket : FnScope N_is_ticket ["thing"] (defScope s_is_ticket) := ⟨rfl, rfl, rfl, by decide +kernel, rfl, by decide +kernel, by decide +kernel⟩
theorem kl_is_ticket_0 {X : Cx} (h : X.env.scope = defScope s_is_ticket) : X.env.scope.names.lookup ("thing" : Str) = some .local := by rw [h]; decide +kernel
theorem nv_is_ticket_0 {X : Cx} {pos : Pos} (hN : X.N = N_is_ticket) (h : X.env.scope = defScope s_is_ticket) : PE X (.Name "thing" pos) (tVar 0) := pe_var (by rw [hN]; rfl) (.inl (kl_is_ticket_0 h))
theorem kl_is_ticket_1 {X : Cx} (h : X.env.scope = defScope s_is_ticket) : X.env.scope.names.lookup ("letter" : Str) = some .local := by rw [h]; decide +kernel
theorem lc_is_ticket_1 {X : Cx} (h : X.env.scope = defScope s_is_ticket) : Loc X.env.scope "letter" := .inl (kl_is_ticket_1 h)
theorem nv_is_ticket_1 {X : Cx} {pos : Pos} (hN : X.N = N_is_ticket) (h : X.env.scope = defScope s_is_ticket) : PE X (.Name "letter" pos) (tVar 1) := pe_var (by rw [hN]; rfl) (.inl (kl_is_ticket_1 h))
theorem kl_is_ticket_2 {X : Cx} (h : X.env.scope = defScope s_is_ticket) : X.env.scope.names.lookup ("number" : Str) = some .local := by rw [h]; decide +kernel
theorem lc_is_ticket_2 {X : Cx} (h : X.env.scope = defScope s_is_ticket) : Loc X.env.scope "number" := .inl (kl_is_ticket_2 h)
theorem nv_is_ticket_2 {X : Cx} {pos : Pos} (hN : X.N = N_is_ticket) (h : X.env.scope = defScope s_is_ticket) : PE X (.Name "number" pos) (tVar 2) := pe_var (by rw [hN]; rfl) (.inl (kl_is_ticket_2 h))
theorem gl_is_ticket_is_letter {X : Cx} (h : X.env.scope = defScope s_is_ticket) : Gl X "is_letter" := by unfold Gl PySem.Env.kindOf; rw [h]; decide +kernel
theorem gl_is_ticket_is_whole {X : Cx} (h : X.env.scope = defScope s_is_ticket) : Gl X "is_whole" := by unfold Gl PySem.Env.kindOf; rw [h]; decide +kernel
theorem gl_is_ticket_isinstance {X : Cx} (h : X.env.scope = defScope s_is_ticket) : Gl X "isinstance" := by unfold Gl PySem.Env.kindOf; rw [h]; decide +kernel
theorem gl_is_ticket_len {X : Cx} (h : X.env.scope = defScope s_is_ticket) : Gl X "len" := by unfold Gl PySem.Env.kindOf; rw [h]; decide +kernel
theorem gl_is_ticket_tuple {X : Cx} (h : X.env.scope = defScope s_is_ticket) : Gl X "tuple" := by unfold Gl PySem.Env.kindOf; rw [h]; decide +kernel
theorem der_is_ticket {P : Program} {w : World} {K : PySem.W.Frag} {mg : Str → Option Value} {base : Heap} {cc : Cl} (bn : Bn mg) (cn : Cn mg) (ce : Ce K mg cc) {fa_is_letter : Addr} {fd_is_letter : FuncData} (I_is_letter : FnI P w K mg base "is_letter" 2 ["thing"] (spP (GG K cc) XR0 1 P_is_letter) fa_is_letter fd_is_letter) {fa_is_whole : Addr} {fd_is_whole : FuncData} (I_is_whole : FnI P w K mg base "is_whole" 1 ["thing"] (spP (GG K cc) XR0 1 P_is_whole) fa_is_whole fd_is_whole) {f : Addr} (cdv : Value) (A : Around) (outer : List PySem.Env) (s : Shared) (H : Hp) (E : XK) (hr : Room 2 (A.deeper (envOfC "is_ticket" (defScope s_is_ticket) s.heap.objs.size f cdv))) (hg : A.guards = some []) :
    PSs (cxOf (L2.CX P w) P w K mg base N_is_ticket "is_ticket" (defScope s_is_ticket) f cdv A outer s H E) (defBody s_is_ticket) (tEx (GG K cc) XR0 (fun c d _ H => E c d H) [] g_is_ticket) := by
  have B : Bx (GG K cc) (fun c d _ H => E c d H) 2 (cxOf (L2.CX P w) P w K mg base N_is_ticket "is_ticket" (defScope s_is_ticket) f cdv A outer s H E) := Bx.of rfl sc_is_ticket.nd hr hg
  unfold g_is_ticket
  exact (es_cons (es_if (PW.pt (ew_or (et_not (et_val (ev_isi (k := 0) B.kk (gl_is_ticket_isinstance rfl) bn.b_isinstance (by decide +kernel) (gl_is_ticket_tuple rfl) bn.b_tuple (by decide +kernel) (ev_name (nv_is_ticket_0 rfl rfl))))) (ew_or1 (et_cmp (op_neT B.un64) o_ne (ev_callB1 call_lenAll o_len (gl_is_ticket_len rfl) bn.b_len (by decide +kernel) (ev_name (nv_is_ticket_0 rfl rfl))) ev_int (nomark _))))) (es_one (es_ret ev_bl)) es_nil) (es_cons (es_asg (ev_name (nv_is_ticket_0 rfl rfl)) (eg_tup B.calm B.kk (egs_cons (eg_name (pg_name (i := 1) B.nd rfl (lc_is_ticket_1 rfl))) (egs_cons (eg_name (pg_name (i := 2) B.nd rfl (lc_is_ticket_2 rfl))) egs_nil)))) (es_one (es_ret (ev_and (ev_call I_is_letter.fn (B.room.mono (by decide)) B.gu B.tk (gl_is_ticket_is_letter rfl) I_is_letter.mg I_is_letter.kp I_is_letter.bd (ea_cons (ev_name (nv_is_ticket_1 rfl rfl)) ea_nil)) (ev_one (ev_call I_is_whole.fn (B.room.mono (by decide)) B.gu B.tk (gl_is_ticket_is_whole rfl) I_is_whole.mg I_is_whole.kp I_is_whole.bd (ea_cons (ev_name (nv_is_ticket_2 rfl rfl)) ea_nil))))))))
abbrev s_is_line : Stmt := topS 12
abbrev N_is_line : List Str := ["thing", "letter", "first", "step"]
theorem sc_is_line : FnScope N_is_line ["thing"] (defScope s_is_line) := ⟨rfl, rfl, rfl, by decide +kernel, rfl, by decide +kernel, by decide +kernel⟩
theorem kl_is_line_0 {X : Cx} (h : X.env.scope = defScope s_is_line) : X.env.scope.names.lookup ("thing" : Str) = some .local := by rw [h]; decide +kernel
theorem nv_is_line_0 {X : Cx} {pos : Pos} (hN : X.N = N_is_line) (h : X.env.scope = defScope s_is_line) : PE X (.Name "thing" pos) (tVar 0) := pe_var (by rw [hN]; rfl) (.inl (kl_is_line_0 h))
theorem kl_is_line_1 {X : Cx} (h : X.env.scope = defScope s_is_line) : X.env.scope.names.lookup ("letter" : Str) = some .local := by rw [h]; decide +kernel
theorem lc_is_line_1 {X : Cx} (h : X.env.scope = defScope s_is_line) : Loc X.env.scope "letter" := .inl (kl_is_line_1 h)
theorem nv_is_line_1 {X : Cx} {pos : Pos} (hN : X.N = N_is_line) (h : X.env.scope = defScope s_is_line) : PE X (.Name "letter" pos) (tVar 1) := pe_var (by rw [hN]; rfl) (.inl (kl_is_line_1 h))
theorem kl_is_line_2 {X : Cx} (h : X.env.scope = defScope s_is_line) : X.env.scope.names.lookup ("first" : Str) = some .local := by rw [h]; decide +kernel
theorem lc_is_line_2 {X : Cx} (h : X.env.scope = defScope s_is_line) : Loc X.env.scope "first" := .inl (kl_is_line_2 h)
theorem nv_is_line_2 {X : Cx} {pos : Pos} (hN : X.N = N_is_line) (h : X.env.scope = defScope s_is_line) : PE X (.Name "first" pos) (tVar 2) := pe_var (by rw [hN]; rfl) (.inl (kl_is_line_2 h))
theorem kl_is_line_3 {X : Cx} (h : X.env.scope = defScope s_is_line) : X.env.scope.names.lookup ("step" : Str) = some .local := by rw [h]; decide +kernel
theorem lc_is_line_3 {X : Cx} (h : X.env.scope = defScope s_is_line) : Loc X.env.scope "step" := .inl (kl_is_line_3 h)
theorem nv_is_line_3 {X : Cx} {pos : Pos} (hN : X.N = N_is_line) (h : X.env.scope = defScope s_is_line) : PE X (.Name "step" pos) (tVar 3) := pe_var (by rw [hN]; rfl) (.inl (kl_is_line_3 h))
theorem gl_is_line_is_letter {X : Cx} (h : X.env.scope = defScope s_is_line) : Gl X "is_letter" := by unfold Gl PySem.Env.kindOf; rw [h]; decide +kernel
theorem gl_is_line_is_whole {X : Cx} (h : X.env.scope = defScope s_is_line) : Gl X "is_whole" := by unfold Gl PySem.Env.kindOf; rw [h]; decide +kernel
theorem gl_is_line_isinstance {X : Cx} (h : X.env.scope = defScope s_is_line) : Gl X "isinstance" := by unfold Gl PySem.Env.kindOf; rw [h]; decide +kernel
theorem gl_is_line_len {X : Cx} (h : X.env.scope = defScope s_is_line) : Gl X "len" := by unfold Gl PySem.Env.kindOf; rw [h]; decide +kernel
theorem gl_is_line_tuple {X : Cx} (h : X.env.scope = defScope s_is_line) : Gl X "tuple" := by unfold Gl PySem.Env.kindOf; rw [h]; decide +kernel
theorem der_is_line {P : Program} {w : World} {K : PySem.W.Frag} {mg : Str → Option Value} {base : Heap} {cc : Cl} (bn : Bn mg) (cn : Cn mg) (ce : Ce K mg cc) {fa_is_letter : Addr} {fd_is_letter : FuncData} (I_is_letter : FnI P w K mg base "is_letter" 2 ["thing"] (spP (GG K cc) XR0 1 P_is_letter) fa_is_letter fd_is_letter) {fa_is_whole : Addr} {fd_is_whole : FuncData} (I_is_whole : FnI P w K mg base "is_whole" 1 ["thing"] (spP (GG K cc) XR0 1 P_is_whole) fa_is_whole fd_is_whole) {f : Addr} (cdv : Value) (A : Around) (outer : List PySem.Env) (s : Shared) (H : Hp) (E : XK) (hr : Room 2 (A.deeper (envOfC "is_line" (defScope s_is_line) s.heap.objs.size f cdv))) (hg : A.guards = some []) :
    PSs (cxOf (L2.CX P w) P w K mg base N_is_line "is_line" (defScope s_is_line) f cdv A outer s H E) (defBody s_is_line) (tEx (GG K cc) XR0 (fun c d _ H => E c d H) [] g_is_line) := by
  have B : Bx (GG K cc) (fun c d _ H => E c d H) 2 (cxOf (L2.CX P w) P w K mg base N_is_line "is_line" (defScope s_is_line) f cdv A outer s H E) := Bx.of rfl sc_is_line.nd hr hg
  unfold g_is_line
  exact (es_cons (es_if (PW.pt (ew_or (et_not (et_val (ev_isi (k := 0) B.kk (gl_is_line_isinstance rfl) bn.b_isinstance (by decide +kernel) (gl_is_line_tuple rfl) bn.b_tuple (by decide +kernel) (ev_name (nv_is_line_0 rfl rfl))))) (ew_or1 (et_cmp (op_neT B.un64) o_ne (ev_callB1 call_lenAll o_len (gl_is_line_len rfl) bn.b_len (by decide +kernel) (ev_name (nv_is_line_0 rfl rfl))) ev_int (nomark _))))) (es_one (es_ret ev_bl)) es_nil) (es_cons (es_asg (ev_name (nv_is_line_0 rfl rfl)) (eg_tup B.calm B.kk (egs_cons (eg_name (pg_name (i := 1) B.nd rfl (lc_is_line_1 rfl))) (egs_cons (eg_name (pg_name (i := 2) B.nd rfl (lc_is_line_2 rfl))) (egs_cons (eg_name (pg_name (i := 3) B.nd rfl (lc_is_line_3 rfl))) egs_nil))))) (es_one (es_ret (ev_and (ev_call I_is_letter.fn (B.room.mono (by decide)) B.gu B.tk (gl_is_line_is_letter rfl) I_is_letter.mg I_is_letter.kp I_is_letter.bd (ea_cons (ev_name (nv_is_line_1 rfl rfl)) ea_nil)) (ev_and (ev_call I_is_whole.fn (B.room.mono (by decide)) B.gu B.tk (gl_is_line_is_whole rfl) I_is_whole.mg I_is_whole.kp I_is_whole.bd (ea_cons (ev_name (nv_is_line_2 rfl rfl)) ea_nil)) (ev_and (ev_call I_is_whole.fn (B.room.mono (by decide)) B.gu B.tk (gl_is_line_is_whole rfl) I_is_whole.mg I_is_whole.kp I_is_whole.bd (ea_cons (ev_name (nv_is_line_3 rfl rfl)) ea_nil)) (ev_one (ev_cmp op_gt o_gt (ev_name (nv_is_line_3 rfl rfl)) ev_int (nomark _))))))))))
abbrev s_are_all : Stmt := topS 19
abbrev N_are_all : List Str := ["thing", "judge", "one"]
theorem sc_are_all : FnScope N_are_all ["thing", "judge"] (defScope s_are_all) := ⟨rfl, rfl, rfl, by decide +kernel, rfl, by decide +kernel, by decide +kernel⟩
theorem kl_are_all_0 {X : Cx} (h : X.env.scope = defScope s_are_all) : X.env.scope.names.lookup ("thing" : Str) = some .local := by rw [h]; decide +kernel
theorem nv_are_all_0 {X : Cx} {pos : Pos} (hN : X.N = N_are_all) (h : X.env.scope = defScope s_are_all) : PE X (.Name "thing" pos) (tVar 0) := pe_var (by rw [hN]; rfl) (.inl (kl_are_all_0 h))
theorem gl_are_all_MOST {X : Cx} (h : X.env.scope = defScope s_are_all) : Gl X "MOST" := by unfold Gl PySem.Env.kindOf; rw [h]; decide +kernel
theorem gl_are_all_all {X : Cx} (h : X.env.scope = defScope s_are_all) : Gl X "all" := by unfold Gl PySem.Env.kindOf; rw [h]; decide +kernel
theorem gl_are_all_isinstance {X : Cx} (h : X.env.scope = defScope s_are_all) : Gl X "isinstance" := by unfold Gl PySem.Env.kindOf; rw [h]; decide +kernel
theorem gl_are_all_len {X : Cx} (h : X.env.scope = defScope s_are_all) : Gl X "len" := by unfold Gl PySem.Env.kindOf; rw [h]; decide +kernel
theorem gl_are_all_tuple {X : Cx} (h : X.env.scope = defScope s_are_all) : Gl X "tuple" := by unfold Gl PySem.Env.kindOf; rw [h]; decide +kernel
theorem hall {P : Program} {w : World} {K : PySem.W.Frag} {mg : Str → Option Value} {base : Heap} {cc : Cl} {fd_is_ticket : FuncData} (I_is_ticket : FnI P w K mg base "is_ticket" 3 ["thing"] (spP (GG K cc) XR0 1 P_is_ticket) cc.f_is_ticket fd_is_ticket) {fd_is_line : FuncData} (I_is_line : FnI P w K mg base "is_line" 3 ["thing"] (spP (GG K cc) XR0 1 P_is_line) cc.f_is_line fd_is_line) : ∀ j Φ f, Phis j = some Φ → (GG K cc).fns j = some f → ∃ fd ps, FnG P w K mg base 3 f fd ps (spP (GG K cc) XR0 1 Φ) ∧ PySem.W.keepIn K (.ref f) = true ∧ Binds K fd ps []
  | 0, Φ, f, h1, h2 => by
    cases h1
    cases h2
    exact ⟨_, _, I_is_ticket.fn.mono (by decide), I_is_ticket.kp, I_is_ticket.bd⟩
  | 1, Φ, f, h1, h2 => by
    cases h1
    cases h2
    exact ⟨_, _, I_is_line.fn.mono (by decide), I_is_line.kp, I_is_line.bd⟩
  | n + 2, Φ, f, h1, _ => by cases h1
theorem der_are_all {P : Program} {w : World} {K : PySem.W.Frag} {mg : Str → Option Value} {base : Heap} {cc : Cl} (bn : Bn mg) (cn : Cn mg) (ce : Ce K mg cc) {fd_is_ticket : FuncData} (I_is_ticket : FnI P w K mg base "is_ticket" 3 ["thing"] (spP (GG K cc) XR0 1 P_is_ticket) cc.f_is_ticket fd_is_ticket) {fd_is_line : FuncData} (I_is_line : FnI P w K mg base "is_line" 3 ["thing"] (spP (GG K cc) XR0 1 P_is_line) cc.f_is_line fd_is_line) {f : Addr} (cdv : Value) (A : Around) (outer : List PySem.Env) (s : Shared) (H : Hp) (E : XK) (hr : Room 3 (A.deeper (envOfC "are_all" (defScope s_are_all) s.heap.objs.size f cdv))) (hg : A.guards = some []) :
    PSs (cxOf (L2.CX P w) P w K mg base N_are_all "are_all" (defScope s_are_all) f cdv A outer s H E) (defBody s_are_all) (tEx (GG K cc) XR0 (fun c d _ H => E c d H) [] g_are_all) := by
  have B : Bx (GG K cc) (fun c d _ H => E c d H) 3 (cxOf (L2.CX P w) P w K mg base N_are_all "are_all" (defScope s_are_all) f cdv A outer s H E) := Bx.of rfl sc_are_all.nd hr hg
  unfold g_are_all ce_are_all_1 cc_are_all_1 ct_are_all_1
  exact (es_one (es_ret (ev_and (ev_isi (k := 0) B.kk (gl_are_all_isinstance rfl) bn.b_isinstance (by decide +kernel) (gl_are_all_tuple rfl) bn.b_tuple (by decide +kernel) (ev_name (nv_are_all_0 rfl rfl))) (ev_and (ev_cmp op_le o_le (ev_callB1 call_lenAll o_len (gl_are_all_len rfl) bn.b_len (by decide +kernel) (ev_name (nv_are_all_0 rfl rfl))) (cn.c_MOST.elim fun _ h => ev_c (pe_glob (v := .int 240) (gl_are_all_MOST rfl) h ⟨_, rfl⟩) (fun _ _ => rep_int)) (nomark _)) (ev_one (ev_callB1 (cr_all B.calm) o_all (gl_are_all_all rfl) bn.b_all (by decide +kernel) (ev_lc B.calm B.nd (ei_seq B.kk (ev_name (nv_are_all_0 rfl rfl))) (blkOk_by (N := N_are_all) (sc := defScope s_are_all) (own := [("one", 2)]) (by decide +kernel)) (fun s1 H1 C1 cl1 fp1 => (eg_name (pg_name (i := 2) (B.blk s1 H1 _ _ fp1).nd rfl (.inl (by kernel_rfl))))) (fun s1 H1 C1 cl1 fp1 => ets_nil) (fun s1 H1 C1 cl1 fp1 => (ev_callF (k := 3) (i := 1) (hall I_is_ticket I_is_line) ((B.blk s1 H1 _ _ fp1).room.mono (by decide)) (B.blk s1 H1 _ _ fp1).gu (B.blk s1 H1 _ _ fp1).tk (pe_var (i := 1) rfl (.inr (.inl (by kernel_rfl)))) (ea_cons (ev_name (pe_var (i := 2) rfl (.inl (by kernel_rfl)))) ea_nil))) (show ∀ j, j < 3 → j ∉ [2] → j ∈ [0, 1] by decide))))))))
abbrev s_divisor_of : Stmt := topS 15
abbrev N_divisor_of : List Str := ["one", "other"]
theorem sc_divisor_of : FnScope N_divisor_of ["one", "other"] (defScope s_divisor_of) := ⟨rfl, rfl, rfl, by decide +kernel, rfl, by decide +kernel, by decide +kernel⟩
theorem kl_divisor_of_0 {X : Cx} (h : X.env.scope = defScope s_divisor_of) : X.env.scope.names.lookup ("one" : Str) = some .local := by rw [h]; decide +kernel
theorem nv_divisor_of_0 {X : Cx} {pos : Pos} (hN : X.N = N_divisor_of) (h : X.env.scope = defScope s_divisor_of) : PE X (.Name "one" pos) (tVar 0) := pe_var (by rw [hN]; rfl) (.inl (kl_divisor_of_0 h))
theorem kl_divisor_of_1 {X : Cx} (h : X.env.scope = defScope s_divisor_of) : X.env.scope.names.lookup ("other" : Str) = some .local := by rw [h]; decide +kernel
theorem nv_divisor_of_1 {X : Cx} {pos : Pos} (hN : X.N = N_divisor_of) (h : X.env.scope = defScope s_divisor_of) : PE X (.Name "other" pos) (tVar 1) := pe_var (by rw [hN]; rfl) (.inl (kl_divisor_of_1 h))
theorem der_divisor_of {P : Program} {w : World} {K : PySem.W.Frag} {mg : Str → Option Value} {base : Heap} {cc : Cl} (bn : Bn mg) (cn : Cn mg) (ce : Ce K mg cc)  {f : Addr} (cdv : Value) (A : Around) (outer : List PySem.Env) (s : Shared) (H : Hp) (E : XK) (hr : Room 0 (A.deeper (envOfC "divisor_of" (defScope s_divisor_of) s.heap.objs.size f cdv))) (hg : A.guards = some []) :
    PSs (cxOf (L2.CX P w) P w K mg base N_divisor_of "divisor_of" (defScope s_divisor_of) f cdv A outer s H E) (defBody s_divisor_of) (tEx (GG K cc) XR0 (fun c d _ H => E c d H) [] g_divisor_of) := by
  have B : Bx (GG K cc) (fun c d _ H => E c d H) 0 (cxOf (L2.CX P w) P w K mg base N_divisor_of "divisor_of" (defScope s_divisor_of) f cdv A outer s H E) := Bx.of rfl sc_divisor_of.nd hr hg
  unfold g_divisor_of wb_divisor_of_1 wt_divisor_of_1
  exact (es_cons (es_while fuelN B.po (et_cmp op_gt o_gt (ev_name (nv_divisor_of_1 rfl rfl)) ev_int (nomark _)) (es_one (es_par (i := 0) (j := 1) B.calm B.nd rfl rfl (by decide) (kl_divisor_of_0 rfl) (kl_divisor_of_1 rfl) (ev_name (nv_divisor_of_1 rfl rfl)) (ev_op op_mod o_mod (ev_name (nv_divisor_of_0 rfl rfl)) (ev_name (nv_divisor_of_1 rfl rfl))) (by rfl)))) (es_one (es_ret (ev_name (nv_divisor_of_0 rfl rfl)))))
abbrev s_do_meet : Stmt := topS 16
abbrev N_do_meet : List Str := ["one", "other"]
theorem sc_do_meet : FnScope N_do_meet ["one", "other"] (defScope s_do_meet) := ⟨rfl, rfl, rfl, by decide +kernel, rfl, by decide +kernel, by decide +kernel⟩
theorem kl_do_meet_0 {X : Cx} (h : X.env.scope = defScope s_do_meet) : X.env.scope.names.lookup ("one" : Str) = some .local := by rw [h]; decide +kernel
theorem nv_do_meet_0 {X : Cx} {pos : Pos} (hN : X.N = N_do_meet) (h : X.env.scope = defScope s_do_meet) : PE X (.Name "one" pos) (tVar 0) := pe_var (by rw [hN]; rfl) (.inl (kl_do_meet_0 h))
theorem kl_do_meet_1 {X : Cx} (h : X.env.scope = defScope s_do_meet) : X.env.scope.names.lookup ("other" : Str) = some .local := by rw [h]; decide +kernel
theorem nv_do_meet_1 {X : Cx} {pos : Pos} (hN : X.N = N_do_meet) (h : X.env.scope = defScope s_do_meet) : PE X (.Name "other" pos) (tVar 1) := pe_var (by rw [hN]; rfl) (.inl (kl_do_meet_1 h))
theorem gl_do_meet_divisor_of {X : Cx} (h : X.env.scope = defScope s_do_meet) : Gl X "divisor_of" := by unfold Gl PySem.Env.kindOf; rw [h]; decide +kernel
theorem der_do_meet {P : Program} {w : World} {K : PySem.W.Frag} {mg : Str → Option Value} {base : Heap} {cc : Cl} (bn : Bn mg) (cn : Cn mg) (ce : Ce K mg cc) {fa_divisor_of : Addr} {fd_divisor_of : FuncData} (I_divisor_of : FnI P w K mg base "divisor_of" 1 ["one", "other"] (spP (GG K cc) XR0 2 P_divisor_of) fa_divisor_of fd_divisor_of) {f : Addr} (cdv : Value) (A : Around) (outer : List PySem.Env) (s : Shared) (H : Hp) (E : XK) (hr : Room 1 (A.deeper (envOfC "do_meet" (defScope s_do_meet) s.heap.objs.size f cdv))) (hg : A.guards = some []) :
    PSs (cxOf (L2.CX P w) P w K mg base N_do_meet "do_meet" (defScope s_do_meet) f cdv A outer s H E) (defBody s_do_meet) (tEx (GG K cc) XR0 (fun c d _ H => E c d H) [] g_do_meet) := by
  have B : Bx (GG K cc) (fun c d _ H => E c d H) 1 (cxOf (L2.CX P w) P w K mg base N_do_meet "do_meet" (defScope s_do_meet) f cdv A outer s H E) := Bx.of rfl sc_do_meet.nd hr hg
  unfold g_do_meet
  exact (es_cons (es_if (et_cmp (op_neT B.un64) o_ne (ev_ix ix_seq o_ix (ev_name (nv_do_meet_0 rfl rfl)) ev_int (fun _ _ => rfl)) (ev_ix ix_seq o_ix (ev_name (nv_do_meet_1 rfl rfl)) ev_int (fun _ _ => rfl)) (nomark _)) (es_one (es_ret ev_bl)) es_nil) (es_one (es_ret (ev_cmp (op_eqT B.un64) o_eq (ev_op op_mod o_mod (ev_op op_sub o_sub (ev_ix ix_seq o_ix (ev_name (nv_do_meet_1 rfl rfl)) ev_int (fun _ _ => rfl)) (ev_ix ix_seq o_ix (ev_name (nv_do_meet_0 rfl rfl)) ev_int (fun _ _ => rfl))) (ev_call I_divisor_of.fn (B.room.mono (by decide)) B.gu B.tk (gl_do_meet_divisor_of rfl) I_divisor_of.mg I_divisor_of.kp I_divisor_of.bd (ea_cons (ev_ix ix_seq o_ix (ev_name (nv_do_meet_0 rfl rfl)) ev_int (fun _ _ => rfl)) (ea_cons (ev_ix ix_seq o_ix (ev_name (nv_do_meet_1 rfl rfl)) ev_int (fun _ _ => rfl)) ea_nil)))) ev_int (nomark _)))))
abbrev s_is_met : Stmt := topS 21
abbrev N_is_met : List Str := ["tail", "k", "other"]
theorem sc_is_met : FnScope N_is_met ["tail", "k"] (defScope s_is_met) := ⟨rfl, rfl, rfl, by decide +kernel, rfl, by decide +kernel, by decide +kernel⟩
theorem kl_is_met_0 {X : Cx} (h : X.env.scope = defScope s_is_met) : X.env.scope.names.lookup ("tail" : Str) = some .cell := by rw [h]; decide +kernel
theorem nv_is_met_0 {X : Cx} {pos : Pos} (hN : X.N = N_is_met) (h : X.env.scope = defScope s_is_met) : PE X (.Name "tail" pos) (tVar 0) := pe_var (by rw [hN]; rfl) (.inr (.inl (kl_is_met_0 h)))
theorem kl_is_met_1 {X : Cx} (h : X.env.scope = defScope s_is_met) : X.env.scope.names.lookup ("k" : Str) = some .cell := by rw [h]; decide +kernel
theorem nv_is_met_1 {X : Cx} {pos : Pos} (hN : X.N = N_is_met) (h : X.env.scope = defScope s_is_met) : PE X (.Name "k" pos) (tVar 1) := pe_var (by rw [hN]; rfl) (.inr (.inl (kl_is_met_1 h)))
theorem gl_is_met_any {X : Cx} (h : X.env.scope = defScope s_is_met) : Gl X "any" := by unfold Gl PySem.Env.kindOf; rw [h]; decide +kernel
theorem der_is_met {P : Program} {w : World} {K : PySem.W.Frag} {mg : Str → Option Value} {base : Heap} {cc : Cl} (bn : Bn mg) (cn : Cn mg) (ce : Ce K mg cc) {fa_do_meet : Addr} {fd_do_meet : FuncData} (I_do_meet : FnI P w K mg base "do_meet" 2 ["one", "other"] (spP (GG K cc) XR0 2 P_do_meet) fa_do_meet fd_do_meet) {f : Addr} (cdv : Value) (A : Around) (outer : List PySem.Env) (s : Shared) (H : Hp) (E : XK) (hr : Room 2 (A.deeper (envOfC "is_met" (defScope s_is_met) s.heap.objs.size f cdv))) (hg : A.guards = some []) :
    PSs (cxOf (L2.CX P w) P w K mg base N_is_met "is_met" (defScope s_is_met) f cdv A outer s H E) (defBody s_is_met) (tEx (GG K cc) XR0 (fun c d _ H => E c d H) [] g_is_met) := by
  have B : Bx (GG K cc) (fun c d _ H => E c d H) 2 (cxOf (L2.CX P w) P w K mg base N_is_met "is_met" (defScope s_is_met) f cdv A outer s H E) := Bx.of rfl sc_is_met.nd hr hg
  unfold g_is_met ce_is_met_1 cc_is_met_1 ct_is_met_1
  exact (es_one (es_ret (ev_callB1 (cr_any B.calm) o_any (gl_is_met_any rfl) bn.b_any (by decide +kernel) (ev_lc B.calm B.nd (ei_seq B.kk (ev_slice B.kk (ev_name (nv_is_met_0 rfl rfl)) eo_none (eo_some (ev_name (nv_is_met_1 rfl rfl))))) (blkOk_by (N := N_is_met) (sc := defScope s_is_met) (own := [("other", 2)]) (by decide +kernel)) (fun s1 H1 C1 cl1 fp1 => (eg_name (pg_name (i := 2) (B.blk s1 H1 _ _ fp1).nd rfl (.inl (by kernel_rfl))))) (fun s1 H1 C1 cl1 fp1 => ets_nil) (fun s1 H1 C1 cl1 fp1 => (ev_call I_do_meet.fn ((B.blk s1 H1 _ _ fp1).room.mono (by decide)) (B.blk s1 H1 _ _ fp1).gu (B.blk s1 H1 _ _ fp1).tk (by unfold Gl; kernel_rfl) I_do_meet.mg I_do_meet.kp I_do_meet.bd (ea_cons (ev_name (pe_var (i := 2) rfl (.inl (by kernel_rfl)))) (ea_cons (ev_ix ix_seq o_ix (ev_name (pe_var (i := 0) rfl (.inr (.inl (by kernel_rfl))))) (ev_name (pe_var (i := 1) rfl (.inr (.inl (by kernel_rfl))))) (fun _ _ => rfl)) ea_nil)))) (show ∀ j, j < 3 → j ∉ [2] → j ∈ [0, 1] by decide)))))
abbrev s_turn_of : Stmt := topS 14
abbrev N_turn_of : List Str := ["line", "ticket", "letter", "first", "step", "own", "number", "turn", "rest"]
theorem sc_turn_of : FnScope N_turn_of ["line", "ticket"] (defScope s_turn_of) := ⟨rfl, rfl, rfl, by decide +kernel, rfl, by decide +kernel, by decide +kernel⟩
theorem kl_turn_of_0 {X : Cx} (h : X.env.scope = defScope s_turn_of) : X.env.scope.names.lookup ("line" : Str) = some .local := by rw [h]; decide +kernel
theorem nv_turn_of_0 {X : Cx} {pos : Pos} (hN : X.N = N_turn_of) (h : X.env.scope = defScope s_turn_of) : PE X (.Name "line" pos) (tVar 0) := pe_var (by rw [hN]; rfl) (.inl (kl_turn_of_0 h))
theorem kl_turn_of_1 {X : Cx} (h : X.env.scope = defScope s_turn_of) : X.env.scope.names.lookup ("ticket" : Str) = some .local := by rw [h]; decide +kernel
theorem nv_turn_of_1 {X : Cx} {pos : Pos} (hN : X.N = N_turn_of) (h : X.env.scope = defScope s_turn_of) : PE X (.Name "ticket" pos) (tVar 1) := pe_var (by rw [hN]; rfl) (.inl (kl_turn_of_1 h))
theorem kl_turn_of_2 {X : Cx} (h : X.env.scope = defScope s_turn_of) : X.env.scope.names.lookup ("letter" : Str) = some .local := by rw [h]; decide +kernel
theorem lc_turn_of_2 {X : Cx} (h : X.env.scope = defScope s_turn_of) : Loc X.env.scope "letter" := .inl (kl_turn_of_2 h)
theorem nv_turn_of_2 {X : Cx} {pos : Pos} (hN : X.N = N_turn_of) (h : X.env.scope = defScope s_turn_of) : PE X (.Name "letter" pos) (tVar 2) := pe_var (by rw [hN]; rfl) (.inl (kl_turn_of_2 h))
theorem kl_turn_of_3 {X : Cx} (h : X.env.scope = defScope s_turn_of) : X.env.scope.names.lookup ("first" : Str) = some .local := by rw [h]; decide +kernel
theorem lc_turn_of_3 {X : Cx} (h : X.env.scope = defScope s_turn_of) : Loc X.env.scope "first" := .inl (kl_turn_of_3 h)
theorem nv_turn_of_3 {X : Cx} {pos : Pos} (hN : X.N = N_turn_of) (h : X.env.scope = defScope s_turn_of) : PE X (.Name "first" pos) (tVar 3) := pe_var (by rw [hN]; rfl) (.inl (kl_turn_of_3 h))
theorem kl_turn_of_4 {X : Cx} (h : X.env.scope = defScope s_turn_of) : X.env.scope.names.lookup ("step" : Str) = some .local := by rw [h]; decide +kernel
theorem lc_turn_of_4 {X : Cx} (h : X.env.scope = defScope s_turn_of) : Loc X.env.scope "step" := .inl (kl_turn_of_4 h)
theorem nv_turn_of_4 {X : Cx} {pos : Pos} (hN : X.N = N_turn_of) (h : X.env.scope = defScope s_turn_of) : PE X (.Name "step" pos) (tVar 4) := pe_var (by rw [hN]; rfl) (.inl (kl_turn_of_4 h))
theorem kl_turn_of_5 {X : Cx} (h : X.env.scope = defScope s_turn_of) : X.env.scope.names.lookup ("own" : Str) = some .local := by rw [h]; decide +kernel
theorem lc_turn_of_5 {X : Cx} (h : X.env.scope = defScope s_turn_of) : Loc X.env.scope "own" := .inl (kl_turn_of_5 h)
theorem nv_turn_of_5 {X : Cx} {pos : Pos} (hN : X.N = N_turn_of) (h : X.env.scope = defScope s_turn_of) : PE X (.Name "own" pos) (tVar 5) := pe_var (by rw [hN]; rfl) (.inl (kl_turn_of_5 h))
theorem kl_turn_of_6 {X : Cx} (h : X.env.scope = defScope s_turn_of) : X.env.scope.names.lookup ("number" : Str) = some .local := by rw [h]; decide +kernel
theorem lc_turn_of_6 {X : Cx} (h : X.env.scope = defScope s_turn_of) : Loc X.env.scope "number" := .inl (kl_turn_of_6 h)
theorem nv_turn_of_6 {X : Cx} {pos : Pos} (hN : X.N = N_turn_of) (h : X.env.scope = defScope s_turn_of) : PE X (.Name "number" pos) (tVar 6) := pe_var (by rw [hN]; rfl) (.inl (kl_turn_of_6 h))
theorem kl_turn_of_7 {X : Cx} (h : X.env.scope = defScope s_turn_of) : X.env.scope.names.lookup ("turn" : Str) = some .local := by rw [h]; decide +kernel
theorem lc_turn_of_7 {X : Cx} (h : X.env.scope = defScope s_turn_of) : Loc X.env.scope "turn" := .inl (kl_turn_of_7 h)
theorem nv_turn_of_7 {X : Cx} {pos : Pos} (hN : X.N = N_turn_of) (h : X.env.scope = defScope s_turn_of) : PE X (.Name "turn" pos) (tVar 7) := pe_var (by rw [hN]; rfl) (.inl (kl_turn_of_7 h))
theorem kl_turn_of_8 {X : Cx} (h : X.env.scope = defScope s_turn_of) : X.env.scope.names.lookup ("rest" : Str) = some .local := by rw [h]; decide +kernel
theorem lc_turn_of_8 {X : Cx} (h : X.env.scope = defScope s_turn_of) : Loc X.env.scope "rest" := .inl (kl_turn_of_8 h)
theorem nv_turn_of_8 {X : Cx} {pos : Pos} (hN : X.N = N_turn_of) (h : X.env.scope = defScope s_turn_of) : PE X (.Name "rest" pos) (tVar 8) := pe_var (by rw [hN]; rfl) (.inl (kl_turn_of_8 h))
theorem gl_turn_of_divmod {X : Cx} (h : X.env.scope = defScope s_turn_of) : Gl X "divmod" := by unfold Gl PySem.Env.kindOf; rw [h]; decide +kernel
theorem der_turn_of {P : Program} {w : World} {K : PySem.W.Frag} {mg : Str → Option Value} {base : Heap} {cc : Cl} (bn : Bn mg) (cn : Cn mg) (ce : Ce K mg cc)  {f : Addr} (cdv : Value) (A : Around) (outer : List PySem.Env) (s : Shared) (H : Hp) (E : XK) (hr : Room 0 (A.deeper (envOfC "turn_of" (defScope s_turn_of) s.heap.objs.size f cdv))) (hg : A.guards = some []) :
    PSs (cxOf (L2.CX P w) P w K mg base N_turn_of "turn_of" (defScope s_turn_of) f cdv A outer s H E) (defBody s_turn_of) (tEx (GG K cc) XR0 (fun c d _ H => E c d H) [] g_turn_of) := by
  have B : Bx (GG K cc) (fun c d _ H => E c d H) 0 (cxOf (L2.CX P w) P w K mg base N_turn_of "turn_of" (defScope s_turn_of) f cdv A outer s H E) := Bx.of rfl sc_turn_of.nd hr hg
  unfold g_turn_of
  exact (es_cons (es_asg (ev_name (nv_turn_of_0 rfl rfl)) (eg_tup B.calm B.kk (egs_cons (eg_name (pg_name (i := 2) B.nd rfl (lc_turn_of_2 rfl))) (egs_cons (eg_name (pg_name (i := 3) B.nd rfl (lc_turn_of_3 rfl))) (egs_cons (eg_name (pg_name (i := 4) B.nd rfl (lc_turn_of_4 rfl))) egs_nil))))) (es_cons (es_asg (ev_name (nv_turn_of_1 rfl rfl)) (eg_tup B.calm B.kk (egs_cons (eg_name (pg_name (i := 5) B.nd rfl (lc_turn_of_5 rfl))) (egs_cons (eg_name (pg_name (i := 6) B.nd rfl (lc_turn_of_6 rfl))) egs_nil)))) (es_cons (es_if (PW.pt (ew_or (et_cmp (op_neT B.un64) o_ne (ev_name (nv_turn_of_5 rfl rfl)) (ev_name (nv_turn_of_2 rfl rfl)) (nomark _)) (ew_or1 (et_cmp op_lt o_lt (ev_name (nv_turn_of_6 rfl rfl)) (ev_name (nv_turn_of_3 rfl rfl)) (nomark _))))) (es_one (es_ret ev_non)) es_nil) (es_cons (es_asg (ev_callB2 call_divmodF o_divmod (gl_turn_of_divmod rfl) bn.b_divmod (by decide +kernel) (ev_op op_sub o_sub (ev_name (nv_turn_of_6 rfl rfl)) (ev_name (nv_turn_of_3 rfl rfl))) (ev_name (nv_turn_of_4 rfl rfl))) (eg_tup B.calm B.kk (egs_cons (eg_name (pg_name (i := 7) B.nd rfl (lc_turn_of_7 rfl))) (egs_cons (eg_name (pg_name (i := 8) B.nd rfl (lc_turn_of_8 rfl))) egs_nil)))) (es_one (es_ret (ev_if (et_cmp (op_eqT B.un64) o_eq (ev_name (nv_turn_of_8 rfl rfl)) ev_int (nomark _)) (ev_name (nv_turn_of_7 rfl rfl)) ev_non)))))))
abbrev s_tells : Stmt := topS 20
abbrev N_tells : List Str := ["tail", "ticket", "line"]
theorem sc_tells : FnScope N_tells ["tail", "ticket"] (defScope s_tells) := ⟨rfl, rfl, rfl, by decide +kernel, rfl, by decide +kernel, by decide +kernel⟩
theorem kl_tells_0 {X : Cx} (h : X.env.scope = defScope s_tells) : X.env.scope.names.lookup ("tail" : Str) = some .local := by rw [h]; decide +kernel
theorem nv_tells_0 {X : Cx} {pos : Pos} (hN : X.N = N_tells) (h : X.env.scope = defScope s_tells) : PE X (.Name "tail" pos) (tVar 0) := pe_var (by rw [hN]; rfl) (.inl (kl_tells_0 h))
theorem gl_tells_any {X : Cx} (h : X.env.scope = defScope s_tells) : Gl X "any" := by unfold Gl PySem.Env.kindOf; rw [h]; decide +kernel
theorem der_tells {P : Program} {w : World} {K : PySem.W.Frag} {mg : Str → Option Value} {base : Heap} {cc : Cl} (bn : Bn mg) (cn : Cn mg) (ce : Ce K mg cc) {fa_turn_of : Addr} {fd_turn_of : FuncData} (I_turn_of : FnI P w K mg base "turn_of" 1 ["line", "ticket"] (spP (GG K cc) XR0 2 P_turn_of) fa_turn_of fd_turn_of) {f : Addr} (cdv : Value) (A : Around) (outer : List PySem.Env) (s : Shared) (H : Hp) (E : XK) (hr : Room 1 (A.deeper (envOfC "tells" (defScope s_tells) s.heap.objs.size f cdv))) (hg : A.guards = some []) :
    PSs (cxOf (L2.CX P w) P w K mg base N_tells "tells" (defScope s_tells) f cdv A outer s H E) (defBody s_tells) (tEx (GG K cc) XR0 (fun c d _ H => E c d H) [] g_tells) := by
  have B : Bx (GG K cc) (fun c d _ H => E c d H) 1 (cxOf (L2.CX P w) P w K mg base N_tells "tells" (defScope s_tells) f cdv A outer s H E) := Bx.of rfl sc_tells.nd hr hg
  unfold g_tells ce_tells_1 cc_tells_1 ct_tells_1
  exact (es_one (es_ret (ev_callB1 (cr_any B.calm) o_any (gl_tells_any rfl) bn.b_any (by decide +kernel) (ev_lc B.calm B.nd (ei_seq B.kk (ev_name (nv_tells_0 rfl rfl))) (blkOk_by (N := N_tells) (sc := defScope s_tells) (own := [("line", 2)]) (by decide +kernel)) (fun s1 H1 C1 cl1 fp1 => (eg_name (pg_name (i := 2) (B.blk s1 H1 _ _ fp1).nd rfl (.inl (by kernel_rfl))))) (fun s1 H1 C1 cl1 fp1 => ets_nil) (fun s1 H1 C1 cl1 fp1 => (ev_cmp op_notN o_notN (ev_call I_turn_of.fn ((B.blk s1 H1 _ _ fp1).room.mono (by decide)) (B.blk s1 H1 _ _ fp1).gu (B.blk s1 H1 _ _ fp1).tk (by unfold Gl; kernel_rfl) I_turn_of.mg I_turn_of.kp I_turn_of.bd (ea_cons (ev_name (pe_var (i := 2) rfl (.inl (by kernel_rfl)))) (ea_cons (ev_name (pe_var (i := 1) rfl (.inr (.inl (by kernel_rfl))))) ea_nil))) ev_non (nomark _))) (show ∀ j, j < 3 → j ∉ [2] → j ∈ [0, 1] by decide)))))
abbrev s_tells_twice : Stmt := topS 22
abbrev N_tells_twice : List Str := ["head", "tail", "ticket", "k"]
theorem sc_tells_twice : FnScope N_tells_twice ["head", "tail"] (defScope s_tells_twice) := ⟨rfl, rfl, rfl, by decide +kernel, rfl, by decide +kernel, by decide +kernel⟩
theorem kl_tells_twice_0 {X : Cx} (h : X.env.scope = defScope s_tells_twice) : X.env.scope.names.lookup ("head" : Str) = some .local := by rw [h]; decide +kernel
theorem nv_tells_twice_0 {X : Cx} {pos : Pos} (hN : X.N = N_tells_twice) (h : X.env.scope = defScope s_tells_twice) : PE X (.Name "head" pos) (tVar 0) := pe_var (by rw [hN]; rfl) (.inl (kl_tells_twice_0 h))
theorem kl_tells_twice_1 {X : Cx} (h : X.env.scope = defScope s_tells_twice) : X.env.scope.names.lookup ("tail" : Str) = some .cell := by rw [h]; decide +kernel
theorem nv_tells_twice_1 {X : Cx} {pos : Pos} (hN : X.N = N_tells_twice) (h : X.env.scope = defScope s_tells_twice) : PE X (.Name "tail" pos) (tVar 1) := pe_var (by rw [hN]; rfl) (.inr (.inl (kl_tells_twice_1 h)))
theorem gl_tells_twice_any {X : Cx} (h : X.env.scope = defScope s_tells_twice) : Gl X "any" := by unfold Gl PySem.Env.kindOf; rw [h]; decide +kernel
theorem gl_tells_twice_len {X : Cx} (h : X.env.scope = defScope s_tells_twice) : Gl X "len" := by unfold Gl PySem.Env.kindOf; rw [h]; decide +kernel
theorem gl_tells_twice_range {X : Cx} (h : X.env.scope = defScope s_tells_twice) : Gl X "range" := by unfold Gl PySem.Env.kindOf; rw [h]; decide +kernel
theorem gl_tells_twice_set {X : Cx} (h : X.env.scope = defScope s_tells_twice) : Gl X "set" := by unfold Gl PySem.Env.kindOf; rw [h]; decide +kernel
theorem der_tells_twice {P : Program} {w : World} {K : PySem.W.Frag} {mg : Str → Option Value} {base : Heap} {cc : Cl} (bn : Bn mg) (cn : Cn mg) (ce : Ce K mg cc) {fa_is_met : Addr} {fd_is_met : FuncData} (I_is_met : FnI P w K mg base "is_met" 3 ["tail", "k"] (spP (GG K cc) XR0 2 P_is_met) fa_is_met fd_is_met) {fa_tells : Addr} {fd_tells : FuncData} (I_tells : FnI P w K mg base "tells" 2 ["tail", "ticket"] (spP (GG K cc) XR0 2 P_tells) fa_tells fd_tells) {f : Addr} (cdv : Value) (A : Around) (outer : List PySem.Env) (s : Shared) (H : Hp) (E : XK) (hr : Room 3 (A.deeper (envOfC "tells_twice" (defScope s_tells_twice) s.heap.objs.size f cdv))) (hg : A.guards = some []) :
    PSs (cxOf (L2.CX P w) P w K mg base N_tells_twice "tells_twice" (defScope s_tells_twice) f cdv A outer s H E) (defBody s_tells_twice) (tEx (GG K cc) XR0 (fun c d _ H => E c d H) [] g_tells_twice) := by
  have B : Bx (GG K cc) (fun c d _ H => E c d H) 3 (cxOf (L2.CX P w) P w K mg base N_tells_twice "tells_twice" (defScope s_tells_twice) f cdv A outer s H E) := Bx.of rfl sc_tells_twice.nd hr hg
  unfold g_tells_twice ce_tells_twice_2 cc_tells_twice_2 ct_tells_twice_2 ce_tells_twice_1 cc_tells_twice_1 ct_tells_twice_1
  exact (es_cons (es_if (PW.pt (ew_or (et_cmp op_lt o_lt (ev_lenSet B.kk B.calm B.un64 (gl_tells_twice_len rfl) bn.b_len (gl_tells_twice_set rfl) bn.b_set (ev_name (nv_tells_twice_0 rfl rfl))) (ev_callB1 call_lenAll o_len (gl_tells_twice_len rfl) bn.b_len (by decide +kernel) (ev_name (nv_tells_twice_0 rfl rfl))) (nomark _)) (ew_or1 (et_val (ev_callB1 (cr_any B.calm) o_any (gl_tells_twice_any rfl) bn.b_any (by decide +kernel) (ev_lc B.calm B.nd (ei_seq B.kk (ev_name (nv_tells_twice_0 rfl rfl))) (blkOk_by (N := N_tells_twice) (sc := defScope s_tells_twice) (own := [("ticket", 2)]) (by decide +kernel)) (fun s1 H1 C1 cl1 fp1 => (eg_name (pg_name (i := 2) (B.blk s1 H1 _ _ fp1).nd rfl (.inl (by kernel_rfl))))) (fun s1 H1 C1 cl1 fp1 => ets_nil) (fun s1 H1 C1 cl1 fp1 => (ev_call I_tells.fn ((B.blk s1 H1 _ _ fp1).room.mono (by decide)) (B.blk s1 H1 _ _ fp1).gu (B.blk s1 H1 _ _ fp1).tk (by unfold Gl; kernel_rfl) I_tells.mg I_tells.kp I_tells.bd (ea_cons (ev_name (pe_var (i := 1) rfl (.inr (.inl (by kernel_rfl))))) (ea_cons (ev_name (pe_var (i := 2) rfl (.inl (by kernel_rfl)))) ea_nil)))) (show ∀ j, j < 4 → j ∉ [2] → j ∈ [0, 1, 3] by decide))))))) (es_one (es_ret ev_bl)) es_nil) (es_one (es_ret (ev_callB1 (cr_any B.calm) o_any (gl_tells_twice_any rfl) bn.b_any (by decide +kernel) (ev_lc B.calm B.nd (ei_range1 (gl_tells_twice_range rfl) bn.b_range (ea_cons (ev_callB1 call_lenAll o_len (gl_tells_twice_len rfl) bn.b_len (by decide +kernel) (ev_name (nv_tells_twice_1 rfl rfl))) ea_nil)) (blkOk_by (N := N_tells_twice) (sc := defScope s_tells_twice) (own := [("k", 3)]) (by decide +kernel)) (fun s1 H1 C1 cl1 fp1 => (eg_name (pg_name (i := 3) (B.blk s1 H1 _ _ fp1).nd rfl (.inl (by kernel_rfl))))) (fun s1 H1 C1 cl1 fp1 => ets_nil) (fun s1 H1 C1 cl1 fp1 => (ev_call I_is_met.fn ((B.blk s1 H1 _ _ fp1).room.mono (by decide)) (B.blk s1 H1 _ _ fp1).gu (B.blk s1 H1 _ _ fp1).tk (by unfold Gl; kernel_rfl) I_is_met.mg I_is_met.kp I_is_met.bd (ea_cons (ev_name (pe_var (i := 1) rfl (.inr (.inl (by kernel_rfl))))) (ea_cons (ev_name (pe_var (i := 3) rfl (.inl (by kernel_rfl)))) ea_nil)))) (show ∀ j, j < 4 → j ∉ [3] → j ∈ [0, 1, 2] by decide))))))
abbrev s_fault_of : Stmt := topS 23
abbrev N_fault_of : List Str := ["thing", "head", "tail"]
theorem sc_fault_of : FnScope N_fault_of ["thing"] (defScope s_fault_of) := ⟨rfl, rfl, rfl, by decide +kernel, rfl, by decide +kernel, by decide +kernel⟩
theorem kl_fault_of_0 {X : Cx} (h : X.env.scope = defScope s_fault_of) : X.env.scope.names.lookup ("thing" : Str) = some .local := by rw [h]; decide +kernel
theorem nv_fault_of_0 {X : Cx} {pos : Pos} (hN : X.N = N_fault_of) (h : X.env.scope = defScope s_fault_of) : PE X (.Name "thing" pos) (tVar 0) := pe_var (by rw [hN]; rfl) (.inl (kl_fault_of_0 h))
theorem kl_fault_of_1 {X : Cx} (h : X.env.scope = defScope s_fault_of) : X.env.scope.names.lookup ("head" : Str) = some .local := by rw [h]; decide +kernel
theorem lc_fault_of_1 {X : Cx} (h : X.env.scope = defScope s_fault_of) : Loc X.env.scope "head" := .inl (kl_fault_of_1 h)
theorem nv_fault_of_1 {X : Cx} {pos : Pos} (hN : X.N = N_fault_of) (h : X.env.scope = defScope s_fault_of) : PE X (.Name "head" pos) (tVar 1) := pe_var (by rw [hN]; rfl) (.inl (kl_fault_of_1 h))
theorem kl_fault_of_2 {X : Cx} (h : X.env.scope = defScope s_fault_of) : X.env.scope.names.lookup ("tail" : Str) = some .local := by rw [h]; decide +kernel
theorem lc_fault_of_2 {X : Cx} (h : X.env.scope = defScope s_fault_of) : Loc X.env.scope "tail" := .inl (kl_fault_of_2 h)
theorem nv_fault_of_2 {X : Cx} {pos : Pos} (hN : X.N = N_fault_of) (h : X.env.scope = defScope s_fault_of) : PE X (.Name "tail" pos) (tVar 2) := pe_var (by rw [hN]; rfl) (.inl (kl_fault_of_2 h))
theorem gl_fault_of_are_all {X : Cx} (h : X.env.scope = defScope s_fault_of) : Gl X "are_all" := by unfold Gl PySem.Env.kindOf; rw [h]; decide +kernel
theorem gl_fault_of_is_line {X : Cx} (h : X.env.scope = defScope s_fault_of) : Gl X "is_line" := by unfold Gl PySem.Env.kindOf; rw [h]; decide +kernel
theorem gl_fault_of_is_ticket {X : Cx} (h : X.env.scope = defScope s_fault_of) : Gl X "is_ticket" := by unfold Gl PySem.Env.kindOf; rw [h]; decide +kernel
theorem gl_fault_of_isinstance {X : Cx} (h : X.env.scope = defScope s_fault_of) : Gl X "isinstance" := by unfold Gl PySem.Env.kindOf; rw [h]; decide +kernel
theorem gl_fault_of_len {X : Cx} (h : X.env.scope = defScope s_fault_of) : Gl X "len" := by unfold Gl PySem.Env.kindOf; rw [h]; decide +kernel
theorem gl_fault_of_tells_twice {X : Cx} (h : X.env.scope = defScope s_fault_of) : Gl X "tells_twice" := by unfold Gl PySem.Env.kindOf; rw [h]; decide +kernel
theorem gl_fault_of_tuple {X : Cx} (h : X.env.scope = defScope s_fault_of) : Gl X "tuple" := by unfold Gl PySem.Env.kindOf; rw [h]; decide +kernel
theorem der_fault_of {P : Program} {w : World} {K : PySem.W.Frag} {mg : Str → Option Value} {base : Heap} {cc : Cl} (bn : Bn mg) (cn : Cn mg) (ce : Ce K mg cc) {fa_are_all : Addr} {fd_are_all : FuncData} (I_are_all : FnI P w K mg base "are_all" 4 ["thing", "judge"] (spP (GG K cc) XR0 2 P_are_all) fa_are_all fd_are_all) {fa_tells_twice : Addr} {fd_tells_twice : FuncData} (I_tells_twice : FnI P w K mg base "tells_twice" 4 ["head", "tail"] (spP (GG K cc) XR0 2 P_tells_twice) fa_tells_twice fd_tells_twice) {fd_is_ticket : FuncData} (I_is_ticket : FnI P w K mg base "is_ticket" 3 ["thing"] (spP (GG K cc) XR0 1 P_is_ticket) cc.f_is_ticket fd_is_ticket) {fd_is_line : FuncData} (I_is_line : FnI P w K mg base "is_line" 3 ["thing"] (spP (GG K cc) XR0 1 P_is_line) cc.f_is_line fd_is_line) {f : Addr} (cdv : Value) (A : Around) (outer : List PySem.Env) (s : Shared) (H : Hp) (E : XK) (hr : Room 4 (A.deeper (envOfC "fault_of" (defScope s_fault_of) s.heap.objs.size f cdv))) (hg : A.guards = some []) :
    PSs (cxOf (L2.CX P w) P w K mg base N_fault_of "fault_of" (defScope s_fault_of) f cdv A outer s H E) (defBody s_fault_of) (tEx (GG K cc) XR0 (fun c d _ H => E c d H) [] g_fault_of) := by
  have B : Bx (GG K cc) (fun c d _ H => E c d H) 4 (cxOf (L2.CX P w) P w K mg base N_fault_of "fault_of" (defScope s_fault_of) f cdv A outer s H E) := Bx.of rfl sc_fault_of.nd hr hg
  unfold g_fault_of
  exact (es_cons (es_if (PW.pt (ew_or (et_not (et_val (ev_isi (k := 0) B.kk (gl_fault_of_isinstance rfl) bn.b_isinstance (by decide +kernel) (gl_fault_of_tuple rfl) bn.b_tuple (by decide +kernel) (ev_name (nv_fault_of_0 rfl rfl))))) (ew_or1 (et_cmp (op_neT B.un64) o_ne (ev_callB1 call_lenAll o_len (gl_fault_of_len rfl) bn.b_len (by decide +kernel) (ev_name (nv_fault_of_0 rfl rfl))) ev_int (nomark _))))) (es_one (es_ret ev_str)) es_nil) (es_cons (es_asg (ev_name (nv_fault_of_0 rfl rfl)) (eg_tup B.calm B.kk (egs_cons (eg_name (pg_name (i := 1) B.nd rfl (lc_fault_of_1 rfl))) (egs_cons (eg_name (pg_name (i := 2) B.nd rfl (lc_fault_of_2 rfl))) egs_nil)))) (es_cons (es_if (et_not (et_val (ev_call I_are_all.fn (B.room.mono (by decide)) B.gu B.tk (gl_fault_of_are_all rfl) I_are_all.mg I_are_all.kp I_are_all.bd (ea_cons (ev_name (nv_fault_of_1 rfl rfl)) (ea_cons (ev_c (pe_glob (v := .ref cc.f_is_ticket) (gl_fault_of_is_ticket rfl) I_is_ticket.mg rfl) (fun _ _ => rep_fn rfl)) ea_nil))))) (es_one (es_ret ev_str)) es_nil) (es_cons (es_if (et_not (et_val (ev_call I_are_all.fn (B.room.mono (by decide)) B.gu B.tk (gl_fault_of_are_all rfl) I_are_all.mg I_are_all.kp I_are_all.bd (ea_cons (ev_name (nv_fault_of_2 rfl rfl)) (ea_cons (ev_c (pe_glob (v := .ref cc.f_is_line) (gl_fault_of_is_line rfl) I_is_line.mg rfl) (fun _ _ => rep_fn rfl)) ea_nil))))) (es_one (es_ret ev_str)) es_nil) (es_one (es_ret (ev_if (et_val (ev_call I_tells_twice.fn (B.room.mono (by decide)) B.gu B.tk (gl_fault_of_tells_twice rfl) I_tells_twice.mg I_tells_twice.kp I_tells_twice.bd (ea_cons (ev_name (nv_fault_of_1 rfl rfl)) (ea_cons (ev_name (nv_fault_of_2 rfl rfl)) ea_nil)))) ev_str ev_non)))))))
abbrev s_want_form : Stmt := topS 25
abbrev N_want_form : List Str := ["thing", "what"]
theorem sc_want_form : FnScope N_want_form ["thing"] (defScope s_want_form) := ⟨rfl, rfl, rfl, by decide +kernel, rfl, by decide +kernel, by decide +kernel⟩
theorem kl_want_form_0 {X : Cx} (h : X.env.scope = defScope s_want_form) : X.env.scope.names.lookup ("thing" : Str) = some .local := by rw [h]; decide +kernel
theorem nv_want_form_0 {X : Cx} {pos : Pos} (hN : X.N = N_want_form) (h : X.env.scope = defScope s_want_form) : PE X (.Name "thing" pos) (tVar 0) := pe_var (by rw [hN]; rfl) (.inl (kl_want_form_0 h))
theorem kl_want_form_1 {X : Cx} (h : X.env.scope = defScope s_want_form) : X.env.scope.names.lookup ("what" : Str) = some .local := by rw [h]; decide +kernel
theorem lc_want_form_1 {X : Cx} (h : X.env.scope = defScope s_want_form) : Loc X.env.scope "what" := .inl (kl_want_form_1 h)
theorem nv_want_form_1 {X : Cx} {pos : Pos} (hN : X.N = N_want_form) (h : X.env.scope = defScope s_want_form) : PE X (.Name "what" pos) (tVar 1) := pe_var (by rw [hN]; rfl) (.inl (kl_want_form_1 h))
theorem gl_want_form_NoForm {X : Cx} (h : X.env.scope = defScope s_want_form) : Gl X "NoForm" := by unfold Gl PySem.Env.kindOf; rw [h]; decide +kernel
theorem gl_want_form_fault_of {X : Cx} (h : X.env.scope = defScope s_want_form) : Gl X "fault_of" := by unfold Gl PySem.Env.kindOf; rw [h]; decide +kernel
theorem der_want_form {P : Program} {w : World} {K : PySem.W.Frag} {mg : Str → Option Value} {base : Heap} {cc : Cl} (bn : Bn mg) (cn : Cn mg) (ce : Ce K mg cc) {fa_fault_of : Addr} {fd_fault_of : FuncData} (I_fault_of : FnI P w K mg base "fault_of" 5 ["thing"] (spP (GG K cc) XR0 1 P_fault_of) fa_fault_of fd_fault_of) {fi_NoForm : Addr} {fdx_NoForm : FuncData} (Q_NoForm : XnI P w K mg base cc.NoForm ["what"] ["self", "what"] fi_NoForm fdx_NoForm) {f : Addr} (cdv : Value) (A : Around) (outer : List PySem.Env) (s : Shared) (H : Hp) (E : XK) (hr : Room 5 (A.deeper (envOfC "want_form" (defScope s_want_form) s.heap.objs.size f cdv))) (hg : A.guards = some []) :
    PSs (cxOf (L2.CX P w) P w K mg base N_want_form "want_form" (defScope s_want_form) f cdv A outer s H E) (defBody s_want_form) (tEx (GG K cc) XR0 (fun c d _ H => E c d H) [] g_want_form) := by
  have B : Bx (GG K cc) (fun c d _ H => E c d H) 5 (cxOf (L2.CX P w) P w K mg base N_want_form "want_form" (defScope s_want_form) f cdv A outer s H E) := Bx.of rfl sc_want_form.nd hr hg
  unfold g_want_form
  exact (es_cons (es_set (i := 1) B.nd rfl (lc_want_form_1 rfl) (ev_call I_fault_of.fn (B.room.mono (by decide)) B.gu B.tk (gl_want_form_fault_of rfl) I_fault_of.mg I_fault_of.kp I_fault_of.bd (ea_cons (ev_name (nv_want_form_0 rfl rfl)) ea_nil))) (es_one (es_if (et_cmp op_notN o_notN (ev_name (nv_want_form_1 rfl rfl)) ev_non (nomark _)) (es_one (es_raiseF B.calm B.tk Q_NoForm.T Q_NoForm.iC Q_NoForm.tI Q_NoForm.fn (B.room.mono (by decide)) Q_NoForm.bd (gl_want_form_NoForm rfl) ce.g_NoForm rfl rfl (by decide) (ea_cons (ev_name (nv_want_form_1 rfl rfl)) ea_nil))) es_nil)))
abbrev s_told_at : Stmt := topS 13
abbrev N_told_at : List Str := ["line", "turn", "letter", "first", "step"]
theorem sc_told_at : FnScope N_told_at ["line", "turn"] (defScope s_told_at) := ⟨rfl, rfl, rfl, by decide +kernel, rfl, by decide +kernel, by decide +kernel⟩
theorem kl_told_at_0 {X : Cx} (h : X.env.scope = defScope s_told_at) : X.env.scope.names.lookup ("line" : Str) = some .local := by rw [h]; decide +kernel
theorem nv_told_at_0 {X : Cx} {pos : Pos} (hN : X.N = N_told_at) (h : X.env.scope = defScope s_told_at) : PE X (.Name "line" pos) (tVar 0) := pe_var (by rw [hN]; rfl) (.inl (kl_told_at_0 h))
theorem kl_told_at_1 {X : Cx} (h : X.env.scope = defScope s_told_at) : X.env.scope.names.lookup ("turn" : Str) = some .local := by rw [h]; decide +kernel
theorem nv_told_at_1 {X : Cx} {pos : Pos} (hN : X.N = N_told_at) (h : X.env.scope = defScope s_told_at) : PE X (.Name "turn" pos) (tVar 1) := pe_var (by rw [hN]; rfl) (.inl (kl_told_at_1 h))
theorem kl_told_at_2 {X : Cx} (h : X.env.scope = defScope s_told_at) : X.env.scope.names.lookup ("letter" : Str) = some .local := by rw [h]; decide +kernel
theorem lc_told_at_2 {X : Cx} (h : X.env.scope = defScope s_told_at) : Loc X.env.scope "letter" := .inl (kl_told_at_2 h)
theorem nv_told_at_2 {X : Cx} {pos : Pos} (hN : X.N = N_told_at) (h : X.env.scope = defScope s_told_at) : PE X (.Name "letter" pos) (tVar 2) := pe_var (by rw [hN]; rfl) (.inl (kl_told_at_2 h))
theorem kl_told_at_3 {X : Cx} (h : X.env.scope = defScope s_told_at) : X.env.scope.names.lookup ("first" : Str) = some .local := by rw [h]; decide +kernel
theorem lc_told_at_3 {X : Cx} (h : X.env.scope = defScope s_told_at) : Loc X.env.scope "first" := .inl (kl_told_at_3 h)
theorem nv_told_at_3 {X : Cx} {pos : Pos} (hN : X.N = N_told_at) (h : X.env.scope = defScope s_told_at) : PE X (.Name "first" pos) (tVar 3) := pe_var (by rw [hN]; rfl) (.inl (kl_told_at_3 h))
theorem kl_told_at_4 {X : Cx} (h : X.env.scope = defScope s_told_at) : X.env.scope.names.lookup ("step" : Str) = some .local := by rw [h]; decide +kernel
theorem lc_told_at_4 {X : Cx} (h : X.env.scope = defScope s_told_at) : Loc X.env.scope "step" := .inl (kl_told_at_4 h)
theorem nv_told_at_4 {X : Cx} {pos : Pos} (hN : X.N = N_told_at) (h : X.env.scope = defScope s_told_at) : PE X (.Name "step" pos) (tVar 4) := pe_var (by rw [hN]; rfl) (.inl (kl_told_at_4 h))
theorem gl_told_at_NoNumber {X : Cx} (h : X.env.scope = defScope s_told_at) : Gl X "NoNumber" := by unfold Gl PySem.Env.kindOf; rw [h]; decide +kernel
theorem gl_told_at_is_whole {X : Cx} (h : X.env.scope = defScope s_told_at) : Gl X "is_whole" := by unfold Gl PySem.Env.kindOf; rw [h]; decide +kernel
theorem der_told_at {P : Program} {w : World} {K : PySem.W.Frag} {mg : Str → Option Value} {base : Heap} {cc : Cl} (bn : Bn mg) (cn : Cn mg) (ce : Ce K mg cc) {fa_is_whole : Addr} {fd_is_whole : FuncData} (I_is_whole : FnI P w K mg base "is_whole" 1 ["thing"] (spP (GG K cc) XR0 1 P_is_whole) fa_is_whole fd_is_whole) {f : Addr} (cdv : Value) (A : Around) (outer : List PySem.Env) (s : Shared) (H : Hp) (E : XK) (hr : Room 1 (A.deeper (envOfC "told_at" (defScope s_told_at) s.heap.objs.size f cdv))) (hg : A.guards = some []) :
    PSs (cxOf (L2.CX P w) P w K mg base N_told_at "told_at" (defScope s_told_at) f cdv A outer s H E) (defBody s_told_at) (tEx (GG K cc) XR0 (fun c d _ H => E c d H) [] g_told_at) := by
  have B : Bx (GG K cc) (fun c d _ H => E c d H) 1 (cxOf (L2.CX P w) P w K mg base N_told_at "told_at" (defScope s_told_at) f cdv A outer s H E) := Bx.of rfl sc_told_at.nd hr hg
  unfold g_told_at
  exact (es_cons (es_if (et_not (et_val (ev_call I_is_whole.fn (B.room.mono (by decide)) B.gu B.tk (gl_told_at_is_whole rfl) I_is_whole.mg I_is_whole.kp I_is_whole.bd (ea_cons (ev_name (nv_told_at_1 rfl rfl)) ea_nil)))) (es_one (es_raise B.calm B.tk PySem.F.excBase_ValueError ce.x_NoNumber ce.g_NoNumber ce.k_NoNumber (raises_own ce.b_NoNumber ce.t_NoNumber) (gl_told_at_NoNumber rfl) ⟨_, rfl⟩)) es_nil) (es_cons (es_asg (ev_name (nv_told_at_0 rfl rfl)) (eg_tup B.calm B.kk (egs_cons (eg_name (pg_name (i := 2) B.nd rfl (lc_told_at_2 rfl))) (egs_cons (eg_name (pg_name (i := 3) B.nd rfl (lc_told_at_3 rfl))) (egs_cons (eg_name (pg_name (i := 4) B.nd rfl (lc_told_at_4 rfl))) egs_nil))))) (es_one (es_ret (ev_tup (ea_cons (ev_name (nv_told_at_2 rfl rfl)) (ea_cons (ev_op op_addAll o_add (ev_name (nv_told_at_3 rfl rfl)) (ev_op op_mulW o_mul (ev_name (nv_told_at_1 rfl rfl)) (ev_name (nv_told_at_4 rfl rfl)))) ea_nil)))))))
abbrev s_standing : Stmt := topS 27
abbrev N_standing : List Str := ["form", "place", "head", "tail", "turn", "at"]
theorem sc_standing : FnScope N_standing ["form", "place"] (defScope s_standing) := ⟨rfl, rfl, rfl, by decide +kernel, rfl, by decide +kernel, by decide +kernel⟩
theorem kl_standing_0 {X : Cx} (h : X.env.scope = defScope s_standing) : X.env.scope.names.lookup ("form" : Str) = some .local := by rw [h]; decide +kernel
theorem nv_standing_0 {X : Cx} {pos : Pos} (hN : X.N = N_standing) (h : X.env.scope = defScope s_standing) : PE X (.Name "form" pos) (tVar 0) := pe_var (by rw [hN]; rfl) (.inl (kl_standing_0 h))
theorem kl_standing_1 {X : Cx} (h : X.env.scope = defScope s_standing) : X.env.scope.names.lookup ("place" : Str) = some .local := by rw [h]; decide +kernel
theorem nv_standing_1 {X : Cx} {pos : Pos} (hN : X.N = N_standing) (h : X.env.scope = defScope s_standing) : PE X (.Name "place" pos) (tVar 1) := pe_var (by rw [hN]; rfl) (.inl (kl_standing_1 h))
theorem kl_standing_2 {X : Cx} (h : X.env.scope = defScope s_standing) : X.env.scope.names.lookup ("head" : Str) = some .local := by rw [h]; decide +kernel
theorem lc_standing_2 {X : Cx} (h : X.env.scope = defScope s_standing) : Loc X.env.scope "head" := .inl (kl_standing_2 h)
theorem nv_standing_2 {X : Cx} {pos : Pos} (hN : X.N = N_standing) (h : X.env.scope = defScope s_standing) : PE X (.Name "head" pos) (tVar 2) := pe_var (by rw [hN]; rfl) (.inl (kl_standing_2 h))
theorem kl_standing_3 {X : Cx} (h : X.env.scope = defScope s_standing) : X.env.scope.names.lookup ("tail" : Str) = some .local := by rw [h]; decide +kernel
theorem lc_standing_3 {X : Cx} (h : X.env.scope = defScope s_standing) : Loc X.env.scope "tail" := .inl (kl_standing_3 h)
theorem nv_standing_3 {X : Cx} {pos : Pos} (hN : X.N = N_standing) (h : X.env.scope = defScope s_standing) : PE X (.Name "tail" pos) (tVar 3) := pe_var (by rw [hN]; rfl) (.inl (kl_standing_3 h))
theorem kl_standing_4 {X : Cx} (h : X.env.scope = defScope s_standing) : X.env.scope.names.lookup ("turn" : Str) = some .local := by rw [h]; decide +kernel
theorem lc_standing_4 {X : Cx} (h : X.env.scope = defScope s_standing) : Loc X.env.scope "turn" := .inl (kl_standing_4 h)
theorem nv_standing_4 {X : Cx} {pos : Pos} (hN : X.N = N_standing) (h : X.env.scope = defScope s_standing) : PE X (.Name "turn" pos) (tVar 4) := pe_var (by rw [hN]; rfl) (.inl (kl_standing_4 h))
theorem kl_standing_5 {X : Cx} (h : X.env.scope = defScope s_standing) : X.env.scope.names.lookup ("at" : Str) = some .local := by rw [h]; decide +kernel
theorem lc_standing_5 {X : Cx} (h : X.env.scope = defScope s_standing) : Loc X.env.scope "at" := .inl (kl_standing_5 h)
theorem nv_standing_5 {X : Cx} {pos : Pos} (hN : X.N = N_standing) (h : X.env.scope = defScope s_standing) : PE X (.Name "at" pos) (tVar 5) := pe_var (by rw [hN]; rfl) (.inl (kl_standing_5 h))
theorem gl_standing_divmod {X : Cx} (h : X.env.scope = defScope s_standing) : Gl X "divmod" := by unfold Gl PySem.Env.kindOf; rw [h]; decide +kernel
theorem gl_standing_len {X : Cx} (h : X.env.scope = defScope s_standing) : Gl X "len" := by unfold Gl PySem.Env.kindOf; rw [h]; decide +kernel
theorem gl_standing_told_at {X : Cx} (h : X.env.scope = defScope s_standing) : Gl X "told_at" := by unfold Gl PySem.Env.kindOf; rw [h]; decide +kernel
theorem der_standing {P : Program} {w : World} {K : PySem.W.Frag} {mg : Str → Option Value} {base : Heap} {cc : Cl} (bn : Bn mg) (cn : Cn mg) (ce : Ce K mg cc) {fa_told_at : Addr} {fd_told_at : FuncData} (I_told_at : FnI P w K mg base "told_at" 2 ["line", "turn"] (spP (GG K cc) XR0 2 P_told_at) fa_told_at fd_told_at) {f : Addr} (cdv : Value) (A : Around) (outer : List PySem.Env) (s : Shared) (H : Hp) (E : XK) (hr : Room 2 (A.deeper (envOfC "standing" (defScope s_standing) s.heap.objs.size f cdv))) (hg : A.guards = some []) :
    PSs (cxOf (L2.CX P w) P w K mg base N_standing "standing" (defScope s_standing) f cdv A outer s H E) (defBody s_standing) (tEx (GG K cc) XR0 (fun c d _ H => E c d H) [] g_standing) := by
  have B : Bx (GG K cc) (fun c d _ H => E c d H) 2 (cxOf (L2.CX P w) P w K mg base N_standing "standing" (defScope s_standing) f cdv A outer s H E) := Bx.of rfl sc_standing.nd hr hg
  unfold g_standing
  exact (es_cons (es_asg (ev_name (nv_standing_0 rfl rfl)) (eg_tup B.calm B.kk (egs_cons (eg_name (pg_name (i := 2) B.nd rfl (lc_standing_2 rfl))) (egs_cons (eg_name (pg_name (i := 3) B.nd rfl (lc_standing_3 rfl))) egs_nil)))) (es_cons (es_if (et_cmp op_lt o_lt (ev_name (nv_standing_1 rfl rfl)) (ev_callB1 call_lenAll o_len (gl_standing_len rfl) bn.b_len (by decide +kernel) (ev_name (nv_standing_2 rfl rfl))) (nomark _)) (es_one (es_ret (ev_ix ix_seq o_ix (ev_name (nv_standing_2 rfl rfl)) (ev_name (nv_standing_1 rfl rfl)) (fun _ _ => rfl)))) es_nil) (es_cons (es_asg (ev_callB2 call_divmodF o_divmod (gl_standing_divmod rfl) bn.b_divmod (by decide +kernel) (ev_op op_sub o_sub (ev_name (nv_standing_1 rfl rfl)) (ev_callB1 call_lenAll o_len (gl_standing_len rfl) bn.b_len (by decide +kernel) (ev_name (nv_standing_2 rfl rfl)))) (ev_callB1 call_lenAll o_len (gl_standing_len rfl) bn.b_len (by decide +kernel) (ev_name (nv_standing_3 rfl rfl)))) (eg_tup B.calm B.kk (egs_cons (eg_name (pg_name (i := 4) B.nd rfl (lc_standing_4 rfl))) (egs_cons (eg_name (pg_name (i := 5) B.nd rfl (lc_standing_5 rfl))) egs_nil)))) (es_one (es_ret (ev_call I_told_at.fn (B.room.mono (by decide)) B.gu B.tk (gl_standing_told_at rfl) I_told_at.mg I_told_at.kp I_told_at.bd (ea_cons (ev_ix ix_seq o_ix (ev_name (nv_standing_3 rfl rfl)) (ev_name (nv_standing_5 rfl rfl)) (fun _ _ => rfl)) (ea_cons (ev_name (nv_standing_4 rfl rfl)) ea_nil))))))))
abbrev s_has_place : Stmt := topS 26
abbrev N_has_place : List Str := ["form", "place", "head", "tail"]
theorem sc_has_place : FnScope N_has_place ["form", "place"] (defScope s_has_place) := ⟨rfl, rfl, rfl, by decide +kernel, rfl, by decide +kernel, by decide +kernel⟩
theorem kl_has_place_0 {X : Cx} (h : X.env.scope = defScope s_has_place) : X.env.scope.names.lookup ("form" : Str) = some .local := by rw [h]; decide +kernel
theorem nv_has_place_0 {X : Cx} {pos : Pos} (hN : X.N = N_has_place) (h : X.env.scope = defScope s_has_place) : PE X (.Name "form" pos) (tVar 0) := pe_var (by rw [hN]; rfl) (.inl (kl_has_place_0 h))
theorem kl_has_place_1 {X : Cx} (h : X.env.scope = defScope s_has_place) : X.env.scope.names.lookup ("place" : Str) = some .local := by rw [h]; decide +kernel
theorem nv_has_place_1 {X : Cx} {pos : Pos} (hN : X.N = N_has_place) (h : X.env.scope = defScope s_has_place) : PE X (.Name "place" pos) (tVar 1) := pe_var (by rw [hN]; rfl) (.inl (kl_has_place_1 h))
theorem kl_has_place_2 {X : Cx} (h : X.env.scope = defScope s_has_place) : X.env.scope.names.lookup ("head" : Str) = some .local := by rw [h]; decide +kernel
theorem lc_has_place_2 {X : Cx} (h : X.env.scope = defScope s_has_place) : Loc X.env.scope "head" := .inl (kl_has_place_2 h)
theorem nv_has_place_2 {X : Cx} {pos : Pos} (hN : X.N = N_has_place) (h : X.env.scope = defScope s_has_place) : PE X (.Name "head" pos) (tVar 2) := pe_var (by rw [hN]; rfl) (.inl (kl_has_place_2 h))
theorem kl_has_place_3 {X : Cx} (h : X.env.scope = defScope s_has_place) : X.env.scope.names.lookup ("tail" : Str) = some .local := by rw [h]; decide +kernel
theorem lc_has_place_3 {X : Cx} (h : X.env.scope = defScope s_has_place) : Loc X.env.scope "tail" := .inl (kl_has_place_3 h)
theorem nv_has_place_3 {X : Cx} {pos : Pos} (hN : X.N = N_has_place) (h : X.env.scope = defScope s_has_place) : PE X (.Name "tail" pos) (tVar 3) := pe_var (by rw [hN]; rfl) (.inl (kl_has_place_3 h))
theorem gl_has_place_is_whole {X : Cx} (h : X.env.scope = defScope s_has_place) : Gl X "is_whole" := by unfold Gl PySem.Env.kindOf; rw [h]; decide +kernel
theorem gl_has_place_len {X : Cx} (h : X.env.scope = defScope s_has_place) : Gl X "len" := by unfold Gl PySem.Env.kindOf; rw [h]; decide +kernel
theorem der_has_place {P : Program} {w : World} {K : PySem.W.Frag} {mg : Str → Option Value} {base : Heap} {cc : Cl} (bn : Bn mg) (cn : Cn mg) (ce : Ce K mg cc) {fa_is_whole : Addr} {fd_is_whole : FuncData} (I_is_whole : FnI P w K mg base "is_whole" 1 ["thing"] (spP (GG K cc) XR0 1 P_is_whole) fa_is_whole fd_is_whole) {f : Addr} (cdv : Value) (A : Around) (outer : List PySem.Env) (s : Shared) (H : Hp) (E : XK) (hr : Room 1 (A.deeper (envOfC "has_place" (defScope s_has_place) s.heap.objs.size f cdv))) (hg : A.guards = some []) :
    PSs (cxOf (L2.CX P w) P w K mg base N_has_place "has_place" (defScope s_has_place) f cdv A outer s H E) (defBody s_has_place) (tEx (GG K cc) XR0 (fun c d _ H => E c d H) [] g_has_place) := by
  have B : Bx (GG K cc) (fun c d _ H => E c d H) 1 (cxOf (L2.CX P w) P w K mg base N_has_place "has_place" (defScope s_has_place) f cdv A outer s H E) := Bx.of rfl sc_has_place.nd hr hg
  unfold g_has_place
  exact (es_cons (es_asg (ev_name (nv_has_place_0 rfl rfl)) (eg_tup B.calm B.kk (egs_cons (eg_name (pg_name (i := 2) B.nd rfl (lc_has_place_2 rfl))) (egs_cons (eg_name (pg_name (i := 3) B.nd rfl (lc_has_place_3 rfl))) egs_nil)))) (es_one (es_ret (ev_and (ev_call I_is_whole.fn (B.room.mono (by decide)) B.gu B.tk (gl_has_place_is_whole rfl) I_is_whole.mg I_is_whole.kp I_is_whole.bd (ea_cons (ev_name (nv_has_place_1 rfl rfl)) ea_nil)) (ev_one (ev_or (ev_cmp (op_neT B.un64) o_ne (ev_name (nv_has_place_3 rfl rfl)) (ev_tup ea_nil) (nomark _)) (ev_one (ev_cmp op_lt o_lt (ev_name (nv_has_place_1 rfl rfl)) (ev_callB1 call_lenAll o_len (gl_has_place_len rfl) bn.b_len (by decide +kernel) (ev_name (nv_has_place_2 rfl rfl))) (nomark _)))))))))
abbrev s_ticket_at : Stmt := topS 28
abbrev N_ticket_at : List Str := ["form", "place"]
theorem sc_ticket_at : FnScope N_ticket_at ["form", "place"] (defScope s_ticket_at) := ⟨rfl, rfl, rfl, by decide +kernel, rfl, by decide +kernel, by decide +kernel⟩
theorem kl_ticket_at_0 {X : Cx} (h : X.env.scope = defScope s_ticket_at) : X.env.scope.names.lookup ("form" : Str) = some .local := by rw [h]; decide +kernel
theorem nv_ticket_at_0 {X : Cx} {pos : Pos} (hN : X.N = N_ticket_at) (h : X.env.scope = defScope s_ticket_at) : PE X (.Name "form" pos) (tVar 0) := pe_var (by rw [hN]; rfl) (.inl (kl_ticket_at_0 h))
theorem kl_ticket_at_1 {X : Cx} (h : X.env.scope = defScope s_ticket_at) : X.env.scope.names.lookup ("place" : Str) = some .local := by rw [h]; decide +kernel
theorem nv_ticket_at_1 {X : Cx} {pos : Pos} (hN : X.N = N_ticket_at) (h : X.env.scope = defScope s_ticket_at) : PE X (.Name "place" pos) (tVar 1) := pe_var (by rw [hN]; rfl) (.inl (kl_ticket_at_1 h))
theorem gl_ticket_at_NoPlace {X : Cx} (h : X.env.scope = defScope s_ticket_at) : Gl X "NoPlace" := by unfold Gl PySem.Env.kindOf; rw [h]; decide +kernel
theorem gl_ticket_at_has_place {X : Cx} (h : X.env.scope = defScope s_ticket_at) : Gl X "has_place" := by unfold Gl PySem.Env.kindOf; rw [h]; decide +kernel
theorem gl_ticket_at_standing {X : Cx} (h : X.env.scope = defScope s_ticket_at) : Gl X "standing" := by unfold Gl PySem.Env.kindOf; rw [h]; decide +kernel
theorem gl_ticket_at_want_form {X : Cx} (h : X.env.scope = defScope s_ticket_at) : Gl X "want_form" := by unfold Gl PySem.Env.kindOf; rw [h]; decide +kernel
theorem der_ticket_at {P : Program} {w : World} {K : PySem.W.Frag} {mg : Str → Option Value} {base : Heap} {cc : Cl} (bn : Bn mg) (cn : Cn mg) (ce : Ce K mg cc) {fa_want_form : Addr} {fd_want_form : FuncData} (I_want_form : FnI P w K mg base "want_form" 6 ["thing"] (spP (GG K cc) XR0 1 P_want_form) fa_want_form fd_want_form) {fa_standing : Addr} {fd_standing : FuncData} (I_standing : FnI P w K mg base "standing" 3 ["form", "place"] (spP (GG K cc) XR0 2 P_standing) fa_standing fd_standing) {fa_has_place : Addr} {fd_has_place : FuncData} (I_has_place : FnI P w K mg base "has_place" 2 ["form", "place"] (spP (GG K cc) XR0 2 P_has_place) fa_has_place fd_has_place) {f : Addr} (cdv : Value) (A : Around) (outer : List PySem.Env) (s : Shared) (H : Hp) (E : XK) (hr : Room 6 (A.deeper (envOfC "ticket_at" (defScope s_ticket_at) s.heap.objs.size f cdv))) (hg : A.guards = some []) :
    PSs (cxOf (L2.CX P w) P w K mg base N_ticket_at "ticket_at" (defScope s_ticket_at) f cdv A outer s H E) (defBody s_ticket_at) (tEx (GG K cc) XR0 (fun c d _ H => E c d H) [] g_ticket_at) := by
  have B : Bx (GG K cc) (fun c d _ H => E c d H) 6 (cxOf (L2.CX P w) P w K mg base N_ticket_at "ticket_at" (defScope s_ticket_at) f cdv A outer s H E) := Bx.of rfl sc_ticket_at.nd hr hg
  unfold g_ticket_at
  exact (es_cons (es_expr (ev_call I_want_form.fn (B.room.mono (by decide)) B.gu B.tk (gl_ticket_at_want_form rfl) I_want_form.mg I_want_form.kp I_want_form.bd (ea_cons (ev_name (nv_ticket_at_0 rfl rfl)) ea_nil))) (es_cons (es_if (et_not (et_val (ev_call I_has_place.fn (B.room.mono (by decide)) B.gu B.tk (gl_ticket_at_has_place rfl) I_has_place.mg I_has_place.kp I_has_place.bd (ea_cons (ev_name (nv_ticket_at_0 rfl rfl)) (ea_cons (ev_name (nv_ticket_at_1 rfl rfl)) ea_nil))))) (es_one (es_raise B.calm B.tk PySem.F.excBase_ValueError ce.x_NoPlace ce.g_NoPlace ce.k_NoPlace (raises_own ce.b_NoPlace ce.t_NoPlace) (gl_ticket_at_NoPlace rfl) ⟨_, rfl⟩)) es_nil) (es_one (es_ret (ev_call I_standing.fn (B.room.mono (by decide)) B.gu B.tk (gl_ticket_at_standing rfl) I_standing.mg I_standing.kp I_standing.bd (ea_cons (ev_name (nv_ticket_at_0 rfl rfl)) (ea_cons (ev_name (nv_ticket_at_1 rfl rfl)) ea_nil)))))))
abbrev s_L_told : Stmt := topS 43
abbrev N_L_told : List Str := ["_law_thing", "_law_place", "_law_found", "e"]
theorem sc_L_told : FnScope N_L_told ["_law_thing", "_law_place"] (defScope s_L_told) := ⟨rfl, rfl, rfl, by decide +kernel, rfl, by decide +kernel, by decide +kernel⟩
theorem kl_L_told_0 {X : Cx} (h : X.env.scope = defScope s_L_told) : X.env.scope.names.lookup ("_law_thing" : Str) = some .local := by rw [h]; decide +kernel
theorem nv_L_told_0 {X : Cx} {pos : Pos} (hN : X.N = N_L_told) (h : X.env.scope = defScope s_L_told) : PE X (.Name "_law_thing" pos) (tVar 0) := pe_var (by rw [hN]; rfl) (.inl (kl_L_told_0 h))
theorem kl_L_told_1 {X : Cx} (h : X.env.scope = defScope s_L_told) : X.env.scope.names.lookup ("_law_place" : Str) = some .local := by rw [h]; decide +kernel
theorem nv_L_told_1 {X : Cx} {pos : Pos} (hN : X.N = N_L_told) (h : X.env.scope = defScope s_L_told) : PE X (.Name "_law_place" pos) (tVar 1) := pe_var (by rw [hN]; rfl) (.inl (kl_L_told_1 h))
theorem kl_L_told_2 {X : Cx} (h : X.env.scope = defScope s_L_told) : X.env.scope.names.lookup ("_law_found" : Str) = some .local := by rw [h]; decide +kernel
theorem lc_L_told_2 {X : Cx} (h : X.env.scope = defScope s_L_told) : Loc X.env.scope "_law_found" := .inl (kl_L_told_2 h)
theorem nv_L_told_2 {X : Cx} {pos : Pos} (hN : X.N = N_L_told) (h : X.env.scope = defScope s_L_told) : PE X (.Name "_law_found" pos) (tVar 2) := pe_var (by rw [hN]; rfl) (.inl (kl_L_told_2 h))
theorem kl_L_told_3 {X : Cx} (h : X.env.scope = defScope s_L_told) : X.env.scope.names.lookup ("e" : Str) = some .local := by rw [h]; decide +kernel
theorem nv_L_told_3 {X : Cx} {pos : Pos} (hN : X.N = N_L_told) (h : X.env.scope = defScope s_L_told) : PE X (.Name "e" pos) (tVar 3) := pe_var (by rw [hN]; rfl) (.inl (kl_L_told_3 h))
theorem kd_L_told_3 {X : Cx} (h : X.env.scope = defScope s_L_told) : X.env.kindOf ("e" : Str) = some .local := by unfold PySem.Env.kindOf; rw [h]; decide +kernel
theorem gl_L_told_NoForm {X : Cx} (h : X.env.scope = defScope s_L_told) : Gl X "NoForm" := by unfold Gl PySem.Env.kindOf; rw [h]; decide +kernel
theorem gl_L_told_NoPlace {X : Cx} (h : X.env.scope = defScope s_L_told) : Gl X "NoPlace" := by unfold Gl PySem.Env.kindOf; rw [h]; decide +kernel
theorem gl_L_told_RowsError {X : Cx} (h : X.env.scope = defScope s_L_told) : Gl X "RowsError" := by unfold Gl PySem.Env.kindOf; rw [h]; decide +kernel
theorem gl_L_told_ValueError {X : Cx} (h : X.env.scope = defScope s_L_told) : Gl X "ValueError" := by unfold Gl PySem.Env.kindOf; rw [h]; decide +kernel
theorem gl_L_told_isinstance {X : Cx} (h : X.env.scope = defScope s_L_told) : Gl X "isinstance" := by unfold Gl PySem.Env.kindOf; rw [h]; decide +kernel
theorem gl_L_told_ticket_at {X : Cx} (h : X.env.scope = defScope s_L_told) : Gl X "ticket_at" := by unfold Gl PySem.Env.kindOf; rw [h]; decide +kernel
theorem gl_L_told_want_form {X : Cx} (h : X.env.scope = defScope s_L_told) : Gl X "want_form" := by unfold Gl PySem.Env.kindOf; rw [h]; decide +kernel
theorem der_L_told {P : Program} {w : World} {K : PySem.W.Frag} {mg : Str → Option Value} {base : Heap} {cc : Cl} (bn : Bn mg) (cn : Cn mg) (ce : Ce K mg cc) {fa_want_form : Addr} {fd_want_form : FuncData} (I_want_form : FnI P w K mg base "want_form" 6 ["thing"] (spP (GG K cc) XR0 1 P_want_form) fa_want_form fd_want_form) {fa_ticket_at : Addr} {fd_ticket_at : FuncData} (I_ticket_at : FnI P w K mg base "ticket_at" 7 ["form", "place"] (spP (GG K cc) XR0 2 P_ticket_at) fa_ticket_at fd_ticket_at) {f : Addr} (cdv : Value) (A : Around) (outer : List PySem.Env) (s : Shared) (H : Hp) (E : XK) (hr : Room 7 (A.deeper (envOfC "_law_told" (defScope s_L_told) s.heap.objs.size f cdv))) (hg : A.guards = some []) :
    PSs (cxOf (L2.CX P w) P w K mg base N_L_told "_law_told" (defScope s_L_told) f cdv A outer s H E) (defBody s_L_told) (tEx (GG K cc) XR0 (fun c d _ H => E c d H) [] g_L_told) := by
  have B : Bx (GG K cc) (fun c d _ H => E c d H) 7 (cxOf (L2.CX P w) P w K mg base N_L_told "_law_told" (defScope s_L_told) f cdv A outer s H E) := Bx.of rfl sc_L_told.nd hr hg
  unfold g_L_told ts_L_told_2 ts_L_told_1 tb_L_told_1
  exact (es_cons (es_set (i := 2) B.nd rfl (lc_L_told_2 rfl) ev_non) (es_cons (es_tryM B rfl rfl (.cons (.inl ⟨rfl, rfl⟩) ⟨(gl_L_told_NoPlace rfl), by decide, .inl ce.g_NoPlace⟩ (xm_NoPlace ce) (fun a1 oe1 c1 d1 pn1 hz hf => (es_one (es_set (i := 2) (B.suite a1 ((a1, oe1) :: pn1) (some (a1, c1, d1))).nd rfl (lc_L_told_2 rfl) ev_non))) (.cons (.inr ⟨3, "e", rfl, rfl, rfl, kd_L_told_3 rfl, by decide⟩) ⟨(gl_L_told_RowsError rfl), by decide, .inl ce.g_RowsError⟩ (xm_RowsError ce) (fun a1 oe1 c1 d1 pn1 hz hf => (es_cons (es_set (i := 2) (B.suite a1 ((a1, oe1) :: pn1) (some (a1, c1, d1))).nd rfl (lc_L_told_2 rfl) ev_str) (es_one (es_if (PW.pt (ew_and (et_val (ev_isE (i := 3) (cu := .ref cc.NoForm) B.kk hz hf (fun k C ns b h1 h2 => xc_all ce k C ns (kl_NoForm k b h1) h2) (gl_L_told_isinstance rfl) bn.b_isinstance (by decide +kernel) (nv_L_told_3 rfl rfl) (pe_glob (v := .ref cc.NoForm) (gl_L_told_NoForm rfl) ce.g_NoForm rfl) (fun _ h => h) (ki_NoForm ce))) (ew_and1 (et_val (ev_isE (i := 3) (cu := .type "ValueError") B.kk hz hf (fun k C ns b h1 h2 => xc_all ce k C ns (kl_ValueError k b h1) h2) (gl_L_told_isinstance rfl) bn.b_isinstance (by decide +kernel) (nv_L_told_3 rfl rfl) (pe_bltn (v := .ty "ValueError") (gl_L_told_ValueError rfl) bn.b_ValueError (by decide +kernel) rfl) (fun _ h => h) (ki_ValueError ce)))))) (es_one (es_set (i := 2) (B.suite a1 ((a1, oe1) :: pn1) (some (a1, c1, d1))).nd rfl (lc_L_told_2 rfl) (ev_xf (i := 3) B.kk hz hf (xf_what ce) (nv_L_told_3 rfl rfl)))) es_nil)))) .nil)) (fun W1 pn1 xe1 tk1 po1 => (es_one (es_if (et_cmp op_isN o_isN (ev_name (nv_L_told_1 rfl rfl)) ev_non (nomark _)) (es_one (es_expr (ev_call I_want_form.fn ((B.tr tk1 po1).room.mono (by decide)) (B.tr tk1 po1).gu (B.tr tk1 po1).tk (gl_L_told_want_form rfl) I_want_form.mg I_want_form.kp I_want_form.bd (ea_cons (ev_name (nv_L_told_0 rfl rfl)) ea_nil)))) (es_one (es_expr (ev_call I_ticket_at.fn ((B.tr tk1 po1).room.mono (by decide)) (B.tr tk1 po1).gu (B.tr tk1 po1).tk (gl_L_told_ticket_at rfl) I_ticket_at.mg I_ticket_at.kp I_ticket_at.bd (ea_cons (ev_name (nv_L_told_0 rfl rfl)) (ea_cons (ev_name (nv_L_told_1 rfl rfl)) ea_nil))))))))) (es_one (es_ret (ev_name (nv_L_told_2 rfl rfl))))))
abbrev s_is_form : Stmt := topS 24
abbrev N_is_form : List Str := ["thing"]
theorem sc_is_form : FnScope N_is_form ["thing"] (defScope s_is_form) := ⟨rfl, rfl, rfl, by decide +kernel, rfl, by decide +kernel, by decide +kernel⟩
theorem kl_is_form_0 {X : Cx} (h : X.env.scope = defScope s_is_form) : X.env.scope.names.lookup ("thing" : Str) = some .local := by rw [h]; decide +kernel
theorem nv_is_form_0 {X : Cx} {pos : Pos} (hN : X.N = N_is_form) (h : X.env.scope = defScope s_is_form) : PE X (.Name "thing" pos) (tVar 0) := pe_var (by rw [hN]; rfl) (.inl (kl_is_form_0 h))
theorem gl_is_form_fault_of {X : Cx} (h : X.env.scope = defScope s_is_form) : Gl X "fault_of" := by unfold Gl PySem.Env.kindOf; rw [h]; decide +kernel
theorem der_is_form {P : Program} {w : World} {K : PySem.W.Frag} {mg : Str → Option Value} {base : Heap} {cc : Cl} (bn : Bn mg) (cn : Cn mg) (ce : Ce K mg cc) {fa_fault_of : Addr} {fd_fault_of : FuncData} (I_fault_of : FnI P w K mg base "fault_of" 5 ["thing"] (spP (GG K cc) XR0 1 P_fault_of) fa_fault_of fd_fault_of) {f : Addr} (cdv : Value) (A : Around) (outer : List PySem.Env) (s : Shared) (H : Hp) (E : XK) (hr : Room 5 (A.deeper (envOfC "is_form" (defScope s_is_form) s.heap.objs.size f cdv))) (hg : A.guards = some []) :
    PSs (cxOf (L2.CX P w) P w K mg base N_is_form "is_form" (defScope s_is_form) f cdv A outer s H E) (defBody s_is_form) (tEx (GG K cc) XR0 (fun c d _ H => E c d H) [] g_is_form) := by
  have B : Bx (GG K cc) (fun c d _ H => E c d H) 5 (cxOf (L2.CX P w) P w K mg base N_is_form "is_form" (defScope s_is_form) f cdv A outer s H E) := Bx.of rfl sc_is_form.nd hr hg
  unfold g_is_form
  exact (es_one (es_ret (ev_cmp op_isN o_isN (ev_call I_fault_of.fn (B.room.mono (by decide)) B.gu B.tk (gl_is_form_fault_of rfl) I_fault_of.mg I_fault_of.kp I_fault_of.bd (ea_cons (ev_name (nv_is_form_0 rfl rfl)) ea_nil)) ev_non (nomark _))))
abbrev s_law : Stmt := topS 44
abbrev N_law : List Str := ["_law_script", "_law_k", "_law_pot_here", "_law_good_here", "_law_head_here", "_law_tail_here", "_law_bent", "_law_whole_here", "_law_thing", "_law_due_here", "_law_kept", "_law_place"]
theorem sc_law : FnScope N_law ["_law_script"] (defScope s_law) := ⟨rfl, rfl, rfl, by decide +kernel, rfl, by decide +kernel, by decide +kernel⟩
theorem kl_law_0 {X : Cx} (h : X.env.scope = defScope s_law) : X.env.scope.names.lookup ("_law_script" : Str) = some .local := by rw [h]; decide +kernel
theorem nv_law_0 {X : Cx} {pos : Pos} (hN : X.N = N_law) (h : X.env.scope = defScope s_law) : PE X (.Name "_law_script" pos) (tVar 0) := pe_var (by rw [hN]; rfl) (.inl (kl_law_0 h))
theorem kl_law_1 {X : Cx} (h : X.env.scope = defScope s_law) : X.env.scope.names.lookup ("_law_k" : Str) = some .local := by rw [h]; decide +kernel
theorem lc_law_1 {X : Cx} (h : X.env.scope = defScope s_law) : Loc X.env.scope "_law_k" := .inl (kl_law_1 h)
theorem nv_law_1 {X : Cx} {pos : Pos} (hN : X.N = N_law) (h : X.env.scope = defScope s_law) : PE X (.Name "_law_k" pos) (tVar 1) := pe_var (by rw [hN]; rfl) (.inl (kl_law_1 h))
theorem kl_law_2 {X : Cx} (h : X.env.scope = defScope s_law) : X.env.scope.names.lookup ("_law_pot_here" : Str) = some .local := by rw [h]; decide +kernel
theorem lc_law_2 {X : Cx} (h : X.env.scope = defScope s_law) : Loc X.env.scope "_law_pot_here" := .inl (kl_law_2 h)
theorem nv_law_2 {X : Cx} {pos : Pos} (hN : X.N = N_law) (h : X.env.scope = defScope s_law) : PE X (.Name "_law_pot_here" pos) (tVar 2) := pe_var (by rw [hN]; rfl) (.inl (kl_law_2 h))
theorem kl_law_3 {X : Cx} (h : X.env.scope = defScope s_law) : X.env.scope.names.lookup ("_law_good_here" : Str) = some .local := by rw [h]; decide +kernel
theorem lc_law_3 {X : Cx} (h : X.env.scope = defScope s_law) : Loc X.env.scope "_law_good_here" := .inl (kl_law_3 h)
theorem nv_law_3 {X : Cx} {pos : Pos} (hN : X.N = N_law) (h : X.env.scope = defScope s_law) : PE X (.Name "_law_good_here" pos) (tVar 3) := pe_var (by rw [hN]; rfl) (.inl (kl_law_3 h))
theorem kl_law_4 {X : Cx} (h : X.env.scope = defScope s_law) : X.env.scope.names.lookup ("_law_head_here" : Str) = some .local := by rw [h]; decide +kernel
theorem nv_law_4 {X : Cx} {pos : Pos} (hN : X.N = N_law) (h : X.env.scope = defScope s_law) : PE X (.Name "_law_head_here" pos) (tVar 4) := pe_var (by rw [hN]; rfl) (.inl (kl_law_4 h))
theorem kl_law_5 {X : Cx} (h : X.env.scope = defScope s_law) : X.env.scope.names.lookup ("_law_tail_here" : Str) = some .local := by rw [h]; decide +kernel
theorem nv_law_5 {X : Cx} {pos : Pos} (hN : X.N = N_law) (h : X.env.scope = defScope s_law) : PE X (.Name "_law_tail_here" pos) (tVar 5) := pe_var (by rw [hN]; rfl) (.inl (kl_law_5 h))
theorem kl_law_6 {X : Cx} (h : X.env.scope = defScope s_law) : X.env.scope.names.lookup ("_law_bent" : Str) = some .local := by rw [h]; decide +kernel
theorem lc_law_6 {X : Cx} (h : X.env.scope = defScope s_law) : Loc X.env.scope "_law_bent" := .inl (kl_law_6 h)
theorem nv_law_6 {X : Cx} {pos : Pos} (hN : X.N = N_law) (h : X.env.scope = defScope s_law) : PE X (.Name "_law_bent" pos) (tVar 6) := pe_var (by rw [hN]; rfl) (.inl (kl_law_6 h))
theorem kl_law_7 {X : Cx} (h : X.env.scope = defScope s_law) : X.env.scope.names.lookup ("_law_whole_here" : Str) = some .local := by rw [h]; decide +kernel
theorem lc_law_7 {X : Cx} (h : X.env.scope = defScope s_law) : Loc X.env.scope "_law_whole_here" := .inl (kl_law_7 h)
theorem nv_law_7 {X : Cx} {pos : Pos} (hN : X.N = N_law) (h : X.env.scope = defScope s_law) : PE X (.Name "_law_whole_here" pos) (tVar 7) := pe_var (by rw [hN]; rfl) (.inl (kl_law_7 h))
theorem kl_law_8 {X : Cx} (h : X.env.scope = defScope s_law) : X.env.scope.names.lookup ("_law_thing" : Str) = some .local := by rw [h]; decide +kernel
theorem lc_law_8 {X : Cx} (h : X.env.scope = defScope s_law) : Loc X.env.scope "_law_thing" := .inl (kl_law_8 h)
theorem nv_law_8 {X : Cx} {pos : Pos} (hN : X.N = N_law) (h : X.env.scope = defScope s_law) : PE X (.Name "_law_thing" pos) (tVar 8) := pe_var (by rw [hN]; rfl) (.inl (kl_law_8 h))
theorem kl_law_9 {X : Cx} (h : X.env.scope = defScope s_law) : X.env.scope.names.lookup ("_law_due_here" : Str) = some .local := by rw [h]; decide +kernel
theorem lc_law_9 {X : Cx} (h : X.env.scope = defScope s_law) : Loc X.env.scope "_law_due_here" := .inl (kl_law_9 h)
theorem nv_law_9 {X : Cx} {pos : Pos} (hN : X.N = N_law) (h : X.env.scope = defScope s_law) : PE X (.Name "_law_due_here" pos) (tVar 9) := pe_var (by rw [hN]; rfl) (.inl (kl_law_9 h))
theorem kl_law_10 {X : Cx} (h : X.env.scope = defScope s_law) : X.env.scope.names.lookup ("_law_kept" : Str) = some .local := by rw [h]; decide +kernel
theorem lc_law_10 {X : Cx} (h : X.env.scope = defScope s_law) : Loc X.env.scope "_law_kept" := .inl (kl_law_10 h)
theorem nv_law_10 {X : Cx} {pos : Pos} (hN : X.N = N_law) (h : X.env.scope = defScope s_law) : PE X (.Name "_law_kept" pos) (tVar 10) := pe_var (by rw [hN]; rfl) (.inl (kl_law_10 h))
theorem kl_law_11 {X : Cx} (h : X.env.scope = defScope s_law) : X.env.scope.names.lookup ("_law_place" : Str) = some .local := by rw [h]; decide +kernel
theorem lc_law_11 {X : Cx} (h : X.env.scope = defScope s_law) : Loc X.env.scope "_law_place" := .inl (kl_law_11 h)
theorem nv_law_11 {X : Cx} {pos : Pos} (hN : X.N = N_law) (h : X.env.scope = defScope s_law) : PE X (.Name "_law_place" pos) (tVar 11) := pe_var (by rw [hN]; rfl) (.inl (kl_law_11 h))
theorem gl_law_L_due {X : Cx} (h : X.env.scope = defScope s_law) : Gl X "_law_due" := by unfold Gl PySem.Env.kindOf; rw [h]; decide +kernel
theorem gl_law_L_good {X : Cx} (h : X.env.scope = defScope s_law) : Gl X "_law_good" := by unfold Gl PySem.Env.kindOf; rw [h]; decide +kernel
theorem gl_law_L_head {X : Cx} (h : X.env.scope = defScope s_law) : Gl X "_law_head" := by unfold Gl PySem.Env.kindOf; rw [h]; decide +kernel
theorem gl_law_L_pot {X : Cx} (h : X.env.scope = defScope s_law) : Gl X "_law_pot" := by unfold Gl PySem.Env.kindOf; rw [h]; decide +kernel
theorem gl_law_L_tail {X : Cx} (h : X.env.scope = defScope s_law) : Gl X "_law_tail" := by unfold Gl PySem.Env.kindOf; rw [h]; decide +kernel
theorem gl_law_L_told {X : Cx} (h : X.env.scope = defScope s_law) : Gl X "_law_told" := by unfold Gl PySem.Env.kindOf; rw [h]; decide +kernel
theorem gl_law_L_twice {X : Cx} (h : X.env.scope = defScope s_law) : Gl X "_law_twice" := by unfold Gl PySem.Env.kindOf; rw [h]; decide +kernel
theorem gl_law_L_whole {X : Cx} (h : X.env.scope = defScope s_law) : Gl X "_law_whole" := by unfold Gl PySem.Env.kindOf; rw [h]; decide +kernel
theorem gl_law_is_form {X : Cx} (h : X.env.scope = defScope s_law) : Gl X "is_form" := by unfold Gl PySem.Env.kindOf; rw [h]; decide +kernel
theorem gl_law_len {X : Cx} (h : X.env.scope = defScope s_law) : Gl X "len" := by unfold Gl PySem.Env.kindOf; rw [h]; decide +kernel
theorem gl_law_max {X : Cx} (h : X.env.scope = defScope s_law) : Gl X "max" := by unfold Gl PySem.Env.kindOf; rw [h]; decide +kernel
theorem gl_law_min {X : Cx} (h : X.env.scope = defScope s_law) : Gl X "min" := by unfold Gl PySem.Env.kindOf; rw [h]; decide +kernel
theorem gl_law_range {X : Cx} (h : X.env.scope = defScope s_law) : Gl X "range" := by unfold Gl PySem.Env.kindOf; rw [h]; decide +kernel
theorem gl_law_repr {X : Cx} (h : X.env.scope = defScope s_law) : Gl X "repr" := by unfold Gl PySem.Env.kindOf; rw [h]; decide +kernel
theorem der_law {P : Program} {w : World} {K : PySem.W.Frag} {mg : Str → Option Value} {base : Heap} {cc : Cl} (bn : Bn mg) (cn : Cn mg) (ce : Ce K mg cc) {fa_L_pot : Addr} {fd_L_pot : FuncData} (I_L_pot : FnI P w K mg base "_law_pot" 1 ["_law_script", "_law_k"] (spP (GG K cc) XR0 2 P_L_pot) fa_L_pot fd_L_pot) {fa_L_good : Addr} {fd_L_good : FuncData} (I_L_good : FnI P w K mg base "_law_good" 4 ["_law_pot_here"] (spM (GG K cc) XR0 1 P_L_good) fa_L_good fd_L_good) {fa_L_twice : Addr} {fd_L_twice : FuncData} (I_L_twice : FnI P w K mg base "_law_twice" 3 ["_law_pot_here", "_law_head_here", "_law_tail_here"] (spM (GG K cc) XR0 3 P_L_twice) fa_L_twice fd_L_twice) {fa_L_whole : Addr} {fd_L_whole : FuncData} (I_L_whole : FnI P w K mg base "_law_whole" 2 ["_law_pot_here", "_law_head_here", "_law_tail_here"] (spM (GG K cc) XR0 3 P_L_whole) fa_L_whole fd_L_whole) {fa_L_due : Addr} {fd_L_due : FuncData} (I_L_due : FnI P w K mg base "_law_due" 1 ["_law_thing", "_law_whole_here", "_law_bent", "_law_twice_here"] (spP (GG K cc) XR0 4 P_L_due) fa_L_due fd_L_due) {fa_L_head : Addr} {fd_L_head : FuncData} (I_L_head : FnI P w K mg base "_law_head" 2 ["_law_pot_here", "_law_head_here"] (spM (GG K cc) XR0 2 P_L_head) fa_L_head fd_L_head) {fa_L_tail : Addr} {fd_L_tail : FuncData} (I_L_tail : FnI P w K mg base "_law_tail" 2 ["_law_pot_here", "_law_tail_here"] (spM (GG K cc) XR0 2 P_L_tail) fa_L_tail fd_L_tail) {fa_L_told : Addr} {fd_L_told : FuncData} (I_L_told : FnI P w K mg base "_law_told" 8 ["_law_thing", "_law_place"] (spP (GG K cc) XR0 2 P_L_told) fa_L_told fd_L_told) {fa_is_form : Addr} {fd_is_form : FuncData} (I_is_form : FnI P w K mg base "is_form" 6 ["thing"] (spP (GG K cc) XR0 1 P_is_form) fa_is_form fd_is_form) {f : Addr} (cdv : Value) (A : Around) (outer : List PySem.Env) (s : Shared) (H : Hp) (E : XK) (hr : Room 8 (A.deeper (envOfC "law" (defScope s_law) s.heap.objs.size f cdv))) (hg : A.guards = some []) :
    PSs (cxOf (L2.CX P w) P w K mg base N_law "law" (defScope s_law) f cdv A outer s H E) (defBody s_law) (tEx (GG K cc) XR0 (fun c d _ H => E c d H) [] g_law) := by
  have B : Bx (GG K cc) (fun c d _ H => E c d H) 8 (cxOf (L2.CX P w) P w K mg base N_law "law" (defScope s_law) f cdv A outer s H E) := Bx.of rfl sc_law.nd hr hg
  unfold g_law fb_law_2 ft_law_2 fb_law_1 ft_law_1
  exact (es_cons (es_for B.po B.calm (ei_range1 (gl_law_range rfl) bn.b_range (ea_cons (ev_callB2 (call_max2 B.calm) o_max (gl_law_max rfl) bn.b_max (by decide +kernel) ev_int (ev_callB2 (call_min2 B.calm) o_min (gl_law_min rfl) bn.b_min (by decide +kernel) (ev_callB1 call_lenAll o_len (gl_law_len rfl) bn.b_len (by decide +kernel) (ev_name (nv_law_0 rfl rfl))) ev_int)) ea_nil)) (eg_name (pg_name (i := 1) B.nd rfl (lc_law_1 rfl))) (es_cons (es_set (i := 2) B.nd rfl (lc_law_2 rfl) (ev_call I_L_pot.fn (B.room.mono (by decide)) B.gu B.tk (gl_law_L_pot rfl) I_L_pot.mg I_L_pot.kp I_L_pot.bd (ea_cons (ev_name (nv_law_0 rfl rfl)) (ea_cons (ev_name (nv_law_1 rfl rfl)) ea_nil)))) (es_cons (es_set (i := 3) B.nd rfl (lc_law_3 rfl) (ev_callM I_L_good.fn (B.room.mono (by decide)) B.gu B.tk (gl_law_L_good rfl) I_L_good.mg I_L_good.kp I_L_good.bd (nv_law_2 rfl rfl) ea_nil)) (es_cons (es_par (i := 4) (j := 5) B.calm B.nd rfl rfl (by decide) (kl_law_4 rfl) (kl_law_5 rfl) (ev_slice B.kk (ev_ix ix_seq o_ix (ev_name (nv_law_3 rfl rfl)) ev_int (fun _ _ => rfl)) eo_none (eo_some ev_int)) (ev_slice B.kk (ev_ix ix_seq o_ix (ev_name (nv_law_3 rfl rfl)) ev_int (fun _ _ => rfl)) eo_none (eo_some ev_int)) (by rfl)) (es_cons (es_set (i := 6) B.nd rfl (lc_law_6 rfl) (ev_callM I_L_twice.fn (B.room.mono (by decide)) B.gu B.tk (gl_law_L_twice rfl) I_L_twice.mg I_L_twice.kp I_L_twice.bd (nv_law_2 rfl rfl) (ea_cons (ev_name (nv_law_4 rfl rfl)) (ea_cons (ev_name (nv_law_5 rfl rfl)) ea_nil)))) (es_cons (es_set (i := 7) B.nd rfl (lc_law_7 rfl) (ev_tup (ea_cons (ev_callM I_L_head.fn (B.room.mono (by decide)) B.gu B.tk (gl_law_L_head rfl) I_L_head.mg I_L_head.kp I_L_head.bd (nv_law_2 rfl rfl) (ea_cons (ev_ix ix_seq o_ix (ev_name (nv_law_6 rfl rfl)) ev_int (fun _ _ => rfl)) ea_nil)) (ea_cons (ev_callM I_L_tail.fn (B.room.mono (by decide)) B.gu B.tk (gl_law_L_tail rfl) I_L_tail.mg I_L_tail.kp I_L_tail.bd (nv_law_2 rfl rfl) (ea_cons (ev_ix ix_seq o_ix (ev_name (nv_law_6 rfl rfl)) ev_int (fun _ _ => rfl)) ea_nil)) ea_nil)))) (es_cons (es_set (i := 8) B.nd rfl (lc_law_8 rfl) (ev_callM I_L_whole.fn (B.room.mono (by decide)) B.gu B.tk (gl_law_L_whole rfl) I_L_whole.mg I_L_whole.kp I_L_whole.bd (nv_law_2 rfl rfl) (ea_cons (ev_ix ix_seq o_ix (ev_name (nv_law_7 rfl rfl)) ev_int (fun _ _ => rfl)) (ea_cons (ev_ix ix_seq o_ix (ev_name (nv_law_7 rfl rfl)) ev_int (fun _ _ => rfl)) ea_nil)))) (es_cons (es_set (i := 9) B.nd rfl (lc_law_9 rfl) (ev_call I_L_due.fn (B.room.mono (by decide)) B.gu B.tk (gl_law_L_due rfl) I_L_due.mg I_L_due.kp I_L_due.bd (ea_cons (ev_name (nv_law_8 rfl rfl)) (ea_cons (ev_name (nv_law_7 rfl rfl)) (ea_cons (ev_name (nv_law_6 rfl rfl)) (ea_cons (ev_cmp (op_neT B.un64) o_ne (ev_name (nv_law_6 rfl rfl)) (ev_tup (ea_cons (ev_name (nv_law_4 rfl rfl)) (ea_cons (ev_name (nv_law_5 rfl rfl)) ea_nil))) (nomark _)) ea_nil)))))) (es_cons (es_set (i := 10) B.nd rfl (lc_law_10 rfl) (ev_callB1 (call_reprE B.gu B.un) o_reprE (gl_law_repr rfl) bn.b_repr (by decide +kernel) (ev_name (nv_law_8 rfl rfl)))) (es_cons (es_for B.po B.calm (ei_seq B.kk (ev_lst (ea_cons ev_non (ea_cons ev_int (ea_cons (ev_un un_neg o_neg ev_int) (ea_cons (ev_op op_pow o_pow ev_int ev_int) (ea_cons ev_str (ea_cons ev_non ea_nil)))))))) (eg_name (pg_name (i := 11) B.nd rfl (lc_law_11 rfl))) (es_one (es_if (et_cmp (op_neT B.un64) o_ne (ev_call I_L_told.fn (B.room.mono (by decide)) B.gu B.tk (gl_law_L_told rfl) I_L_told.mg I_L_told.kp I_L_told.bd (ea_cons (ev_name (nv_law_8 rfl rfl)) (ea_cons (ev_name (nv_law_11 rfl rfl)) ea_nil))) (ev_name (nv_law_9 rfl rfl)) (nomark _)) (es_one (es_ret ev_bl)) es_nil))) (es_one (es_if (PW.pt (ew_or (et_cmp (op_neT B.un64) o_ne (ev_callB1 (call_reprE B.gu B.un) o_reprE (gl_law_repr rfl) bn.b_repr (by decide +kernel) (ev_call I_is_form.fn (B.room.mono (by decide)) B.gu B.tk (gl_law_is_form rfl) I_is_form.mg I_is_form.kp I_is_form.bd (ea_cons (ev_name (nv_law_8 rfl rfl)) ea_nil))) (ev_callB1 (call_reprE B.gu B.un) o_reprE (gl_law_repr rfl) bn.b_repr (by decide +kernel) (ev_cmp op_isN o_isN (ev_name (nv_law_9 rfl rfl)) ev_non (nomark _))) (nomark _)) (ew_or1 (et_cmp (op_neT B.un64) o_ne (ev_callB1 (call_reprE B.gu B.un) o_reprE (gl_law_repr rfl) bn.b_repr (by decide +kernel) (ev_name (nv_law_8 rfl rfl))) (ev_name (nv_law_10 rfl rfl)) (nomark _))))) (es_one (es_ret ev_bl)) es_nil)))))))))))) (es_one (es_ret ev_bl)))
end K16
/-! Fm: lines that stand apart, forms, plain (no program). -/
namespace Fm
open PySem
abbrev Tt := Str × Int
structure Ln where
  l : Str
  f : Int
  s : Int
deriving DecidableEq
/-- the two lines have no ticket in common, however far back they go -/
def Apart (a b : Ln) : Prop := a.l = b.l → ¬ ((Int.gcd a.s b.s : Int) ∣ b.f - a.f)
/-- the line tells the ticket -/
def tells (a : Ln) (t : Tt) : Prop := t.1 = a.l ∧ a.f ≤ t.2 ∧ a.s ∣ t.2 - a.f
/-- the ticket is not of the line's numbers, however far back it goes -/
def Off (t : Tt) (a : Ln) : Prop := t.1 = a.l → ¬ (a.s ∣ t.2 - a.f)
theorem Apart.symm {a b : Ln} (h : Apart a b) : Apart b a := fun e d => h e.symm (by
  rw [Int.gcd_comm] at d
  have := Int.dvd_neg.mpr d
  rw [show -(a.f - b.f) = b.f - a.f by omega] at this
  exact this)
theorem gl {a b : Int} : (Int.gcd a b : Int) ∣ a := Int.gcd_dvd_left _ _
theorem gr {a b : Int} : (Int.gcd a b : Int) ∣ b := Int.gcd_dvd_right _ _
/-- a number of both -/
theorem Apart.off {a b : Ln} (h : Apart a b) {t : Tt} (h1 : t.1 = a.l) (h2 : a.s ∣ t.2 - a.f) : Off t b := fun e d => h (h1.symm.trans e) (by
  have d1 := Int.dvd_trans (gl (a := a.s) (b := b.s)) h2
  have d2 := Int.dvd_trans (gr (a := a.s) (b := b.s)) d
  have := Int.dvd_sub d1 d2
  rw [show t.2 - a.f - (t.2 - b.f) = b.f - a.f by omega] at this
  exact this)
theorem Off.no {t : Tt} {a : Ln} (h : Off t a) : ¬ tells a t := fun z => h z.1 z.2.2
/-- a line some turns on (or back) -/
def Ln.on (a : Ln) (k : Int) : Ln := ⟨a.l, a.f + k * a.s, a.s⟩
theorem dvd_shift {s x k : Int} : s ∣ x - k * s ↔ s ∣ x := by
  constructor
  · intro h
    have := Int.dvd_add h (Int.dvd_mul_left k s)
    rwa [show x - k * s + k * s = x by omega] at this
  · intro h
    exact Int.dvd_sub h (Int.dvd_mul_left k s)
theorem Apart.on_left {a b : Ln} (h : Apart a b) (k : Int) : Apart (a.on k) b := fun e d => h e (by
  simp only [Ln.on] at d
  have d1 := Int.dvd_trans (gl (a := a.s) (b := b.s)) (Int.dvd_mul_left k a.s)
  have := Int.dvd_add d d1
  rwa [show b.f - (a.f + k * a.s) + k * a.s = b.f - a.f by omega] at this)
theorem Apart.on {a b : Ln} (h : Apart a b) (k j : Int) : Apart (a.on k) (b.on j) := ((h.on_left k).symm.on_left j).symm
theorem Off.on {t : Tt} {a : Ln} (h : Off t a) (k : Int) : Off t (a.on k) := fun e d => h e (by
  simp only [Ln.on] at d
  rw [show t.2 - (a.f + k * a.s) = t.2 - a.f - k * a.s by omega] at d
  exact dvd_shift.mp d)
/-- a part of a line -/
def Ln.part (a : Ln) (m k : Int) : Ln := ⟨a.l, a.f + k * a.s, a.s * m⟩
theorem Apart.part_left {a b : Ln} (h : Apart a b) (m k : Int) : Apart (a.part m k) b := fun e d => h e (by
  simp only [Ln.part] at d
  have hg : (Int.gcd a.s b.s : Int) ∣ (Int.gcd (a.s * m) b.s : Int) := Int.dvd_coe_gcd (Int.dvd_trans gl (Int.dvd_mul_right _ _)) gr
  have d1 := Int.dvd_trans (gl (a := a.s) (b := b.s)) (Int.dvd_mul_left k a.s)
  have := Int.dvd_add (Int.dvd_trans hg d) d1
  rwa [show b.f - (a.f + k * a.s) + k * a.s = b.f - a.f by omega] at this)
theorem parts_apart {a : Ln} {m i j : Int} (hs : 0 < a.s) (i0 : 0 ≤ i) (i1 : i < m) (j0 : 0 ≤ j) (j1 : j < m) (hij : i ≠ j) : Apart (a.part m i) (a.part m j) := fun _ d => by
  simp only [Ln.part] at d
  rw [Int.gcd_self, show a.f + j * a.s - (a.f + i * a.s) = a.s * (j - i) by rw [Int.mul_sub, Int.mul_comm a.s j, Int.mul_comm a.s i]; omega] at d
  have hm : 0 < a.s * m := Int.mul_pos hs (by omega)
  rw [Int.ofNat_natAbs_of_nonneg (Int.le_of_lt hm)] at d
  have d2 : m ∣ j - i := Int.dvd_of_mul_dvd_mul_left (Int.ne_of_gt hs) d
  obtain ⟨q, hq⟩ := d2
  rcases Int.lt_trichotomy q 0 with h | h | h
  · have : m * q ≤ m * (-1) := Int.mul_le_mul_of_nonneg_left (by omega) (by omega)
    omega
  · subst h
    omega
  · have : m * 1 ≤ m * q := Int.mul_le_mul_of_nonneg_left (by omega) (by omega)
    omega
/-- a form of which no ticket is told twice -/
structure Ok (H : List Tt) (T : List Ln) : Prop where
  nd : H.Nodup
  ap : T.Pairwise Apart
  no : ∀ t ∈ H, ∀ a ∈ T, ¬ tells a t
theorem Ok.sub {H H' : List Tt} {T T' : List Ln} (o : Ok H T) (h : H'.Sublist H) (t : T'.Sublist T) : Ok H' T' :=
  ⟨o.nd.sublist h, o.ap.sublist t, fun x hx a ha => o.no x (h.subset hx) a (t.subset ha)⟩
theorem Ok.perm {H H' : List Tt} {T : List Ln} (o : Ok H T) (h : H'.Perm H) : Ok H' T :=
  ⟨h.symm.nodup o.nd, o.ap, fun x hx a ha => o.no x (h.subset hx) a ha⟩
theorem apart_perm {T T' : List Ln} (h : T.Pairwise Apart) (p : T.Perm T') : T'.Pairwise Apart := (p.pairwise_iff fun {x y} => Apart.symm).mp h
theorem erase_perm {α : Type} : ∀ {l : List α} {i : Nat} {a : α}, l[i]? = some a → (a :: l.eraseIdx i).Perm l
  | [], _, _, h => by simp at h
  | x :: l, 0, a, h => by
    have h : x = a := by simpa using h
    subst h
    exact .refl _
  | x :: l, i + 1, a, h => by
    have h : l[i]? = some a := by simpa using h
    rw [List.eraseIdx_cons_succ]
    exact (List.Perm.swap x a _).trans ((erase_perm h).cons x)
/-- one line taken apart -/
theorem split_apart {L : List Ln} {i : Nat} {a : Ln} {m : Nat} (h : L.Pairwise Apart) (ha : L[i]? = some a) (hs : 0 < a.s) :
    (L.eraseIdx i ++ (List.range m).map fun k : Nat => a.part m k).Pairwise Apart := by
  obtain ⟨hi, e⟩ := List.getElem?_eq_some_iff.mp ha
  have p : (a :: L.eraseIdx i).Pairwise Apart := by
    exact apart_perm h (erase_perm ha).symm
  rw [List.pairwise_cons] at p
  rw [List.pairwise_append]
  refine ⟨p.2, ?_, ?_⟩
  · rw [List.pairwise_map]
    refine List.Pairwise.imp_of_mem ?_ List.nodup_range
    intro x y hx hy hxy
    rw [List.mem_range] at hx hy
    exact parts_apart hs (by omega) (by omega) (by omega) (by omega) (by omega)
  · intro b hb c hc
    obtain ⟨k, _, rfl⟩ := List.mem_map.mp hc
    exact ((p.1 b hb).part_left m k).symm
/-- a form grown line by line: of the lines to come every ticket of the head is off -/
structure Grown (H : List Tt) (T R : List Ln) : Prop where
  nd : H.Nodup
  ap : (T ++ R).Pairwise Apart
  no : ∀ t ∈ H, ∀ a ∈ T, ¬ tells a t
  off : ∀ t ∈ H, ∀ a ∈ R, Off t a
theorem Grown.ok {H : List Tt} {T : List Ln} (g : Grown H T []) : Ok H T := ⟨g.nd, by simpa using g.ap, g.no⟩
theorem Grown.start {R : List Ln} (h : R.Pairwise Apart) : Grown [] [] R := ⟨List.nodup_nil, by simpa using h, by simp, by simp⟩
/-- E: tickets of the line's first turns, u: the turns it begins late -/
theorem Grown.step {H : List Tt} {T R : List Ln} {a : Ln} (g : Grown H T (a :: R)) (hs : 0 < a.s) {E : List Tt} {u : Int} (hE : E.Nodup) (he : ∀ t ∈ E, ∃ k : Int, t = (a.l, a.f + k * a.s) ∧ k < u) (b : Bool) :
    Grown (H ++ E) (if b then T ++ [a.on u] else T) R := by
  have ap := g.ap
  rw [List.pairwise_append] at ap
  obtain ⟨apT, apR, apTR⟩ := ap
  rw [List.pairwise_cons] at apR
  have e2 : ∀ t ∈ E, t.1 = a.l ∧ a.s ∣ t.2 - a.f := fun t ht => by
    obtain ⟨k, rfl, _⟩ := he t ht
    refine ⟨rfl, ?_⟩
    simp only
    rw [show a.f + k * a.s - a.f = k * a.s by omega]
    exact Int.dvd_mul_left _ _
  have noT : ∀ t ∈ H ++ E, ∀ c ∈ T, ¬ tells c t := fun t ht c hc => by
    rcases List.mem_append.mp ht with ht | ht
    · exact g.no t ht c hc
    · exact ((apTR c hc a List.mem_cons_self).symm.off (e2 t ht).1 (e2 t ht).2).no
  refine ⟨?_, ?_, ?_, ?_⟩
  · rw [List.nodup_append]
    refine ⟨g.nd, hE, fun x hx y hy e => ?_⟩
    subst e
    exact g.off x hx a List.mem_cons_self (e2 x hy).1 (e2 x hy).2
  · have base : (T ++ R).Pairwise Apart := by
      rw [List.pairwise_append]
      exact ⟨apT, apR.2, fun x hx y hy => apTR x hx y (List.mem_cons_of_mem _ hy)⟩
    cases b with
    | false => exact base
    | true =>
      simp only [if_true, List.append_assoc, List.singleton_append]
      rw [List.pairwise_append]
      refine ⟨apT, ?_, fun x hx y hy => ?_⟩
      · rw [List.pairwise_cons]
        exact ⟨fun c hc => (apR.1 c hc).on_left u, apR.2⟩
      · rcases List.mem_cons.mp hy with rfl | hy
        · exact ((apTR x hx a List.mem_cons_self).symm.on_left u).symm
        · exact apTR x hx y (List.mem_cons_of_mem _ hy)
  · cases b with
    | false => exact noT
    | true =>
      intro t ht c hc
      simp only [if_true] at hc
      rcases List.mem_append.mp hc with hc | hc
      · exact noT t ht c hc
      · rw [List.mem_singleton] at hc
        subst hc
        rcases List.mem_append.mp ht with ht | ht
        · exact ((g.off t ht a List.mem_cons_self).on u).no
        · obtain ⟨k, rfl, hk⟩ := he t ht
          intro z
          have h1 := z.2.1
          simp only [Ln.on] at h1
          have : (k - u) * a.s < 0 := Int.mul_neg_of_neg_of_pos (by omega) hs
          rw [Int.sub_mul] at this
          omega
  · intro t ht c hc
    rcases List.mem_append.mp ht with ht | ht
    · exact g.off t ht c (List.mem_cons_of_mem _ hc)
    · exact (apR.1 c hc).off (e2 t ht).1 (e2 t ht).2
/-! what stands where -/
def Ln.at (a : Ln) (k : Int) : Tt := (a.l, a.f + k * a.s)
theorem Apart.two {a b : Ln} (h : Apart a b) {t : Tt} (h1 : tells a t) (h2 : tells b t) : False := (h.off h1.1 h1.2.2).no h2
/-- the ticket at a place of a form -/
def stand (H : List Tt) (T : List Ln) (p : Nat) : Option Tt := if p < H.length then H[p]? else (T[(p - H.length) % T.length]?).map fun a => a.at ((p - H.length) / T.length : Nat)
theorem stand_some {H : List Tt} {T : List Ln} {p : Nat} (h : T ≠ [] ∨ p < H.length) : ∃ t, stand H T p = some t := by
  unfold stand
  split
  · rename_i hp
    exact ⟨_, List.getElem?_eq_getElem hp⟩
  · rename_i hp
    have hT : 0 < T.length := by
      rcases h with h | h
      · exact List.length_pos_iff.mpr h
      · exact absurd h hp
    rw [List.getElem?_eq_getElem (Nat.mod_lt _ hT)]
    exact ⟨_, rfl⟩
end Fm
/-! TkE: tools to run mirrors: comprehensions, ==, repr, tickets and lines as data. -/
namespace Tk
open PySem Fm
/-! ### comprehensions -/
theorem lc_pure {vs : List Nat} {g : GF} {t : TF} {f : UF} {e : Env} (E1 : D → Env) (p : D → Bool) (h : D → D) (ds : List D)
    (hE : ∀ d ∈ ds, g d (wipeE e vs) = some (.ok () (E1 d)) ∧ (E1 d).length = (wipeE e vs).length ∧ t (E1 d) = some (.ok (p d) (E1 d)) ∧ (p d = true → f (E1 d) = some (.ok (h d) (E1 d))) ∧ wipeE (E1 d) vs = wipeE e vs)
    (hu : unwipe e (wipeE e vs) vs = e) (hl : ds.length ≤ 1000000) : lcK vs g t f ds e = some (.ok (.fresh (.lst ((ds.filter p).map h))) e) := by
  have c := comp_run (vs := vs) (g := g) (t := t) (f := f) (E := wipeE e vs) E1 p h ds [] hE (by simpa using hl)
  unfold lcK
  rw [c]
  simp only [List.nil_append]
  rw [if_pos (wipeE_length e vs), hu]
theorem comp_inv {vs : List Nat} {g : GF} {t : TF} {f : UF} (I : Nat → List D → Env → Prop) : ∀ (ds : List D) (k : Nat) (acc : List D) (env : Env), (∀ (i : Nat) d acc env, ds[i]? = some d → I (k + i) acc env → ∃ e1 b e2, g d env = some (.ok () e1) ∧ e1.length = env.length ∧ t e1 = some (.ok b e2) ∧ (b = false → I (k + i + 1) acc (wipeE e2 vs)) ∧ (b = true → ∃ y e3, f e2 = some (.ok y e3) ∧ I (k + i + 1) (acc ++ [y]) (wipeE e3 vs))) →
    I k acc env → acc.length + ds.length ≤ 1000000 → ∃ acc' env', compG vs g t f ds acc env = some (.ok acc' env') ∧ I (k + ds.length) acc' env'
  | [], k, acc, env, _, hi, _ => ⟨acc, env, by unfold compG; rfl, hi⟩
  | d :: ds, k, acc, env, h, hi, hl => by
    obtain ⟨e1, b, e2, h1, h2, h3, h4, h5⟩ := h 0 d acc env rfl hi
    rw [List.length_cons] at hl
    have nxt : ∀ (i : Nat) d' acc env, ds[i]? = some d' → I (k + 1 + i) acc env → _ := fun i d' acc env hd hi' => h (i + 1) d' acc env hd (by rw [show k + (i + 1) = k + 1 + i by omega]; exact hi')
    unfold compG
    rw [h1, bd_ok, if_pos h2, h3, bd_ok]
    cases b with
    | false =>
      rw [if_neg Bool.false_ne_true]
      obtain ⟨acc', env', h6, h7⟩ := comp_inv I ds (k + 1) acc _ (fun i d' acc env hd hi' => by
        have := nxt i d' acc env hd hi'
        rw [show k + (i + 1) + 1 = k + 1 + i + 1 by omega] at this
        exact this) (h4 rfl) (by omega)
      exact ⟨acc', env', h6, by rw [List.length_cons, show k + (ds.length + 1) = k + 1 + ds.length by omega]; exact h7⟩
    | true =>
      obtain ⟨y, e3, h8, h9⟩ := h5 rfl
      rw [if_pos rfl, h8, bd_ok, if_pos (show szOk acc.length = true from decide_eq_true (by omega))]
      obtain ⟨acc', env', h6, h7⟩ := comp_inv I ds (k + 1) (acc ++ [y]) _ (fun i d' acc env hd hi' => by
        have := nxt i d' acc env hd hi'
        rw [show k + (i + 1) + 1 = k + 1 + i + 1 by omega] at this
        exact this) h9 (by simp; omega)
      exact ⟨acc', env', h6, by rw [List.length_cons, show k + (ds.length + 1) = k + 1 + ds.length by omega]; exact h7⟩
/-- a comprehension whose turns change the rest -/
theorem lc_run {vs : List Nat} {g : GF} {t : TF} {f : UF} (I : Nat → List D → Env → Prop) (ds : List D) (e : Env) (h0 : I 0 [] (wipeE e vs))
    (h : ∀ (i : Nat) d acc env, ds[i]? = some d → I i acc env → ∃ e1 b e2, g d env = some (.ok () e1) ∧ e1.length = env.length ∧ t e1 = some (.ok b e2) ∧ (b = false → I (i + 1) acc (wipeE e2 vs)) ∧ (b = true → ∃ y e3, f e2 = some (.ok y e3) ∧ I (i + 1) (acc ++ [y]) (wipeE e3 vs)))
    (hl : ds.length ≤ 1000000) (len : ∀ acc env, I ds.length acc env → env.length = e.length) : ∃ acc e2, lcK vs g t f ds e = some (.ok (.fresh (.lst acc)) (unwipe e e2 vs)) ∧ I ds.length acc e2 := by
  obtain ⟨acc, e2, h1, h2⟩ := comp_inv (vs := vs) (g := g) (t := t) (f := f) I ds 0 [] (wipeE e vs) (fun i d acc env hd hi => by
    have := h i d acc env hd (by rw [Nat.zero_add] at hi; exact hi)
    rw [show 0 + i + 1 = i + 1 by omega]
    exact this) h0 (by simpa using hl)
  rw [Nat.zero_add] at h2
  refine ⟨acc, e2, ?_, h2⟩
  unfold lcK
  rw [h1]
  simp only
  rw [if_pos (len acc e2 h2)]
/-- over things of any type, told as data -/
theorem comp_map {α : Type} {vs : List Nat} {g : GF} {t : TF} {f : UF} {E : Env} (φ : α → D) (E1 : α → Env) (p : α → Bool) (h : α → D) : ∀ (l : List α) (acc : List D), (∀ a ∈ l, g (φ a) E = some (.ok () (E1 a)) ∧ (E1 a).length = E.length ∧ t (E1 a) = some (.ok (p a) (E1 a)) ∧ (p a = true → f (E1 a) = some (.ok (h a) (E1 a))) ∧ wipeE (E1 a) vs = E) →
    acc.length + l.length ≤ 1000000 → compG vs g t f (l.map φ) acc E = some (.ok (acc ++ (l.filter p).map h) E)
  | [], acc, _, _ => by
    unfold compG
    simp
  | d :: ds, acc, hh, hl => by
    obtain ⟨h1, h2, h3, h4, h5⟩ := hh d List.mem_cons_self
    rw [List.length_cons] at hl
    rw [List.map_cons]
    unfold compG
    rw [h1, bd_ok, if_pos h2, h3, bd_ok]
    cases hp : p d with
    | false =>
      rw [if_neg Bool.false_ne_true, h5, comp_map φ E1 p h ds acc (fun d' hd => hh d' (List.mem_cons_of_mem _ hd)) (by omega)]
      simp [hp]
    | true =>
      rw [if_pos rfl, h4 hp, bd_ok, if_pos (show szOk acc.length = true from decide_eq_true (by omega)), h5, comp_map φ E1 p h ds (acc ++ [h d]) (fun d' hd => hh d' (List.mem_cons_of_mem _ hd)) (by simp; omega)]
      simp [hp]
theorem lc_map {α : Type} {vs : List Nat} {g : GF} {t : TF} {f : UF} {e : Env} (φ : α → D) (E1 : α → Env) (p : α → Bool) (h : α → D) (l : List α)
    (hE : ∀ a ∈ l, g (φ a) (wipeE e vs) = some (.ok () (E1 a)) ∧ (E1 a).length = (wipeE e vs).length ∧ t (E1 a) = some (.ok (p a) (E1 a)) ∧ (p a = true → f (E1 a) = some (.ok (h a) (E1 a))) ∧ wipeE (E1 a) vs = wipeE e vs)
    (hu : unwipe e (wipeE e vs) vs = e) (hl : l.length ≤ 1000000) : lcK vs g t f (l.map φ) e = some (.ok (.fresh (.lst ((l.filter p).map h))) e) := by
  have c := comp_map (vs := vs) (g := g) (t := t) (f := f) (E := wipeE e vs) φ E1 p h l [] hE (by simpa using hl)
  unfold lcK
  rw [c]
  simp only [List.nil_append]
  rw [if_pos (wipeE_length e vs), hu]
theorem filter_yes {α : Type} (l : List α) : l.filter (fun _ => true) = l := List.filter_eq_self.mpr fun _ _ => rfl
/-! ### slices, items -/
theorem cut_to {α : Type} (l : List α) (k : Nat) : cutG l none (some (k : Int)) = l.take k := by
  unfold cutG
  rw [HT.sIx_nat]
  simp [HT.sIx]
theorem cut_from {α : Type} (l : List α) (k : Nat) : cutG l (some (k : Int)) none = l.drop k := by
  unfold cutG
  rw [HT.sIx_nat]
  simp only [HT.sIx]
  rw [List.take_of_length_le (by simp)]
  by_cases h : k ≤ l.length
  · rw [Nat.min_eq_left h]
  · rw [Nat.min_eq_right (by omega), List.drop_eq_nil_of_le (Nat.le_refl _), List.drop_eq_nil_of_le (by omega)]
theorem cut_mid {α : Type} (l : List α) (i k : Nat) : cutG l (some (i : Int)) (some (k : Int)) = (l.take k).drop i := by
  unfold cutG
  rw [HT.sIx_nat, HT.sIx_nat, List.take_drop]
  by_cases h : i ≤ l.length
  · by_cases h2 : k ≤ l.length
    · rw [Nat.min_eq_left h, Nat.min_eq_left h2]
      by_cases h3 : i ≤ k
      · rw [show i + (k - i) = k by omega]
      · rw [show i + (k - i) = i by omega, List.drop_eq_nil_of_le (by simp; omega), List.drop_eq_nil_of_le (by simp; omega)]
    · rw [Nat.min_eq_left h, Nat.min_eq_right (by omega), show i + (l.length - i) = l.length by omega, List.take_length, List.take_of_length_le (by omega)]
  · rw [Nat.min_eq_right (by omega), List.drop_eq_nil_of_le (by simp), List.drop_eq_nil_of_le (by simp; omega)]
theorem at_map_nat {α : Type} {l : List α} {f : α → D} {k : Nat} {a : α} (h : l[k]? = some a) : L2.atI (l.map f) (k : Int) = some (f a) := L2.atI_nat (by rw [List.getElem?_map, h]; rfl)
theorem ints_get {n i : Nat} {d : D} (h : (Tk.intsFrom 0 n)[i]? = some d) : i < n ∧ d = .int i := by
  have hi : i < n := by
    have := (List.getElem?_eq_some_iff.mp h).1
    simpa [Tk.intsFrom] using this
  refine ⟨hi, ?_⟩
  unfold Tk.intsFrom at h
  rw [List.getElem?_map, List.getElem?_range hi] at h
  simp at h
  exact h.symm
theorem ints_len {lo : Int} {n : Nat} : (Tk.intsFrom lo n).length = n := by simp [Tk.intsFrom]
theorem s62 {n : Nat} (h : n ≤ 1000000) : small62 (n : Int) = true := by
  unfold small62
  exact decide_eq_true (by omega)
theorem s62i {i : Int} (h0 : -1000000000 ≤ i) (h : i ≤ 1000000000) : small62 i = true := by
  unfold small62
  exact decide_eq_true (by omega)
theorem bls_map {α : Type} (b : α → Bool) : ∀ l : List α, blsOf (l.map fun a => D.bl (b a)) = some (l.map b)
  | [] => rfl
  | x :: l => by simp [blsOf, blOf, bls_map b l]
theorem all_map {α : Type} (b : α → Bool) (l : List α) : fAll (.lst (l.map fun a => D.bl (b a))) = some (.dat (.bl (l.all b))) := by
  simp only [fAll, bls_map, Option.map_some, List.all_map]
  rfl
theorem turns_of (n b : Nat) (hb : 1 ≤ b) : ∃ m : Nat, m ≤ b ∧ (if (if ((b : Nat) : Int) < (n : Int) then ((b : Nat) : Int) else (n : Int)) > 1 then (if ((b : Nat) : Int) < (n : Int) then ((b : Nat) : Int) else (n : Int)) else 1) = (m : Int) := by
  refine ⟨(if (if ((b : Nat) : Int) < (n : Int) then ((b : Nat) : Int) else (n : Int)) > 1 then (if ((b : Nat) : Int) < (n : Int) then ((b : Nat) : Int) else (n : Int)) else 1).toNat, ?_, ?_⟩
  · split <;> split <;> omega
  · split <;> split <;> omega
/-! ### data that may be compared and shown -/
structure Fine (B k n : Nat) (d : D) (p : PyData) : Prop where
  t : toPy d = some p
  c : PyData.canLay0 p = true
  d : PyData.depth p ≤ k
  s : PyData.showable p = true
  l : PyData.leavesShort B p = true
  b : PyData.bulk p ≤ n
structure Fines (B k n : Nat) (ds : List D) (ps : List PyData) : Prop where
  t : toPys ds = some ps
  c : PyData.canLayAll0 ps = true
  d : PyData.depthAll ps ≤ k
  s : PyData.showableAll ps = true
  l : PyData.leavesShortAll B ps = true
  b : PyData.bulkAll ps ≤ n
section
variable {B k n k' n' : Nat} {d d' : D} {p p' : PyData} {ds : List D} {ps : List PyData}
theorem Fine.more (h : Fine B k n d p) (hk : k ≤ k') (hn : n ≤ n') : Fine B k' n' d p := ⟨h.t, h.c, Nat.le_trans h.d hk, h.s, h.l, Nat.le_trans h.b hn⟩
theorem Fines.more (h : Fines B k n ds ps) (hk : k ≤ k') (hn : n ≤ n') : Fines B k' n' ds ps := ⟨h.t, h.c, Nat.le_trans h.d hk, h.s, h.l, Nat.le_trans h.b hn⟩
theorem fi_non : Fine B k n .non .none := ⟨by simp [toPy], by simp [PyData.canLay0], by simp [PyData.depth], by simp [PyData.showable], by simp [PyData.leavesShort], by simp [PyData.bulk]⟩
theorem fi_int {i : Int} (h : i.natAbs < 10 ^ 190) : Fine 200 k n (.int i) (.int i) := ⟨by simp [toPy], by simp [PyData.canLay0], by simp [PyData.depth], int_show (Nat.lt_trans h (by decide +kernel)), by
  have := int_short (by omega) h
  simp only [PyData.leavesShort, decide_eq_true_eq]
  omega, by simp [PyData.bulk]⟩
theorem fi_ltr {c : Nat} (h : c < 128) (hn : 1 ≤ n) : Fine B k n (.str ⟨#[c]⟩) (.str ⟨#[c]⟩) := ⟨by simp [toPy], by simp [PyData.canLay0, (StrOk.ltr h).1], by simp [PyData.depth], by simp [PyData.showable], by simp only [PyData.leavesShort]; exact (StrOk.ltr h).2.1, by simp only [PyData.bulk]; exact hn⟩
theorem fi_tup (h : Fines B k n ds ps) : Fine B (k + 1) n (.tup ds) (.tuple ps) := ⟨by simp [toPy, h.t], by simp only [PyData.canLay0]; exact h.c, by simp only [PyData.depth]; have := h.d; omega, by simp only [PyData.showable]; exact h.s, by simp only [PyData.leavesShort]; exact h.l, by simp only [PyData.bulk]; exact h.b⟩
theorem fs_nil : Fines B k n [] [] := ⟨by simp [toPys], by simp [PyData.canLayAll0], by simp [PyData.depthAll], by simp [PyData.showableAll], by simp [PyData.leavesShortAll], by simp [PyData.bulkAll]⟩
theorem fs_cons (h : Fine B k n d p) (r : Fines B k n' ds ps) : Fines B k (n + 1 + n') (d :: ds) (p :: ps) := ⟨by simp [toPys, h.t, r.t], by simp only [PyData.canLayAll0, h.c, r.c, Bool.and_self], by simp only [PyData.depthAll]; exact Nat.max_le.mpr ⟨h.d, r.d⟩, by simp only [PyData.showableAll, h.s, r.s, Bool.and_self], by simp only [PyData.leavesShortAll, h.l, r.l, Bool.and_self], by simp only [PyData.bulkAll]; have := h.b; have := r.b; omega⟩
theorem fs_map {α : Type} {f : α → D} {g : α → PyData} : ∀ {l : List α}, (∀ a ∈ l, Fine B k n (f a) (g a)) → Fines B k (l.length * (n + 1)) (l.map f) (l.map g)
  | [], _ => fs_nil
  | a :: l, h => by
    have := fs_cons (h a List.mem_cons_self) (fs_map (l := l) fun b hb => h b (List.mem_cons_of_mem _ hb))
    refine this.more (Nat.le_refl _) ?_
    rw [List.length_cons, Nat.succ_mul]
    omega
theorem Fine.shaped (h : Fine B k n d p) (hk : k ≤ 64) : SeqAt.shaped p = true := by
  unfold SeqAt.shaped
  rw [h.c, decide_eq_true (Nat.le_trans h.d hk)]
  rfl
theorem Fine.eq (neg : Bool) (h : Fine B k n d p) (h' : Fine B k' n' d' p') (hk : k ≤ 64 := by omega) (hk' : k' ≤ 64 := by omega) : eqF neg d d' = some (.dat (.bl (neg ^^ PyData.eqv p p'))) := eqF_of h.t h'.t (h.shaped hk) (h'.shaped hk')
theorem Fine.repr (h : Fine B k n d p) (hB : 8 ≤ B := by omega) (hk : k ≤ 64 := by omega) (hn : (B + 2) * n + B ≤ 1000000 := by omega) : fRepr d = some (.dat (.str p.shown)) :=
  fRepr_of hB h.t ⟨h.s, h.shaped hk, h.l, PyData.hasDict_of_canLay p h.c, Nat.le_trans (Nat.add_le_add_right (Nat.mul_le_mul_left _ h.b) _) hn⟩
end
mutual
theorem eqv_self : ∀ p : PyData, PyData.canLay0 p = true → PyData.eqv p p = true
  | .none, _ => by simp [PyData.eqv]
  | .bool b, _ => by simp [PyData.eqv]
  | .int i, _ => by simp [PyData.eqv]
  | .str x, _ => by simp [PyData.eqv]
  | .list l, h => by
    simp only [PyData.eqv]
    exact eqvs_self l (by simpa only [PyData.canLay0] using h)
  | .tuple l, h => by
    simp only [PyData.eqv]
    exact eqvs_self l (by simpa only [PyData.canLay0] using h)
  | .dict l, h => by simp [PyData.canLay0] at h
theorem eqvs_self : ∀ p : List PyData, PyData.canLayAll0 p = true → PyData.eqvAll p p = true
  | [], _ => by simp [PyData.eqvAll]
  | p :: l, h => by
    simp only [PyData.canLayAll0, Bool.and_eq_true] at h
    simp only [PyData.eqvAll, eqv_self p h.1, eqvs_self l h.2, Bool.and_self]
end
theorem Fine.same {B k n : Nat} {d : D} {p : PyData} (neg : Bool) (h : Fine B k n d p) (hk : k ≤ 64 := by omega) : eqF neg d d = some (.dat (.bl (neg ^^ true))) := by
  rw [h.eq neg h hk hk, eqv_self p h.c]
/-! ### isinstance -/
theorem isi_int_non  : fIsi "int" .non = some (.dat (.bl false)) := by
  have h : L2.kitB "NoneType" "int" = some false := by decide +kernel
  simp [fIsi, tyName, h]
theorem isi_int_bl (b : Bool) : fIsi "int" (.bl b) = some (.dat (.bl true)) := by
  have h : L2.kitB "bool" "int" = some true := by decide +kernel
  simp [fIsi, tyName, h]
theorem isi_int_int (i : Int) : fIsi "int" (.int i) = some (.dat (.bl true)) := by
  have h : L2.kitB "int" "int" = some true := by decide +kernel
  simp [fIsi, tyName, h]
theorem isi_int_str (x : Str) : fIsi "int" (.str x) = some (.dat (.bl false)) := by
  have h : L2.kitB "str" "int" = some false := by decide +kernel
  simp [fIsi, tyName, h]
theorem isi_int_tup (l : List D) : fIsi "int" (.tup l) = some (.dat (.bl false)) := by
  have h : L2.kitB "tuple" "int" = some false := by decide +kernel
  simp [fIsi, tyName, h]
theorem isi_int_lst (l : List D) : fIsi "int" (.lst l) = some (.dat (.bl false)) := by
  have h : L2.kitB "list" "int" = some false := by decide +kernel
  simp [fIsi, tyName, h]
theorem isi_int_dct (ks : List L2.Key) (l : List D) : fIsi "int" (.dct ks l) = some (.dat (.bl false)) := by
  have h : L2.kitB "dict" "int" = some false := by decide +kernel
  simp [fIsi, tyName, h]
theorem isi_bool_non  : fIsi "bool" .non = some (.dat (.bl false)) := by
  have h : L2.kitB "NoneType" "bool" = some false := by decide +kernel
  simp [fIsi, tyName, h]
theorem isi_bool_bl (b : Bool) : fIsi "bool" (.bl b) = some (.dat (.bl true)) := by
  have h : L2.kitB "bool" "bool" = some true := by decide +kernel
  simp [fIsi, tyName, h]
theorem isi_bool_int (i : Int) : fIsi "bool" (.int i) = some (.dat (.bl false)) := by
  have h : L2.kitB "int" "bool" = some false := by decide +kernel
  simp [fIsi, tyName, h]
theorem isi_bool_str (x : Str) : fIsi "bool" (.str x) = some (.dat (.bl false)) := by
  have h : L2.kitB "str" "bool" = some false := by decide +kernel
  simp [fIsi, tyName, h]
theorem isi_bool_tup (l : List D) : fIsi "bool" (.tup l) = some (.dat (.bl false)) := by
  have h : L2.kitB "tuple" "bool" = some false := by decide +kernel
  simp [fIsi, tyName, h]
theorem isi_bool_lst (l : List D) : fIsi "bool" (.lst l) = some (.dat (.bl false)) := by
  have h : L2.kitB "list" "bool" = some false := by decide +kernel
  simp [fIsi, tyName, h]
theorem isi_bool_dct (ks : List L2.Key) (l : List D) : fIsi "bool" (.dct ks l) = some (.dat (.bl false)) := by
  have h : L2.kitB "dict" "bool" = some false := by decide +kernel
  simp [fIsi, tyName, h]
theorem isi_str_non  : fIsi "str" .non = some (.dat (.bl false)) := by
  have h : L2.kitB "NoneType" "str" = some false := by decide +kernel
  simp [fIsi, tyName, h]
theorem isi_str_bl (b : Bool) : fIsi "str" (.bl b) = some (.dat (.bl false)) := by
  have h : L2.kitB "bool" "str" = some false := by decide +kernel
  simp [fIsi, tyName, h]
theorem isi_str_int (i : Int) : fIsi "str" (.int i) = some (.dat (.bl false)) := by
  have h : L2.kitB "int" "str" = some false := by decide +kernel
  simp [fIsi, tyName, h]
theorem isi_str_str (x : Str) : fIsi "str" (.str x) = some (.dat (.bl true)) := by
  have h : L2.kitB "str" "str" = some true := by decide +kernel
  simp [fIsi, tyName, h]
theorem isi_str_tup (l : List D) : fIsi "str" (.tup l) = some (.dat (.bl false)) := by
  have h : L2.kitB "tuple" "str" = some false := by decide +kernel
  simp [fIsi, tyName, h]
theorem isi_str_lst (l : List D) : fIsi "str" (.lst l) = some (.dat (.bl false)) := by
  have h : L2.kitB "list" "str" = some false := by decide +kernel
  simp [fIsi, tyName, h]
theorem isi_str_dct (ks : List L2.Key) (l : List D) : fIsi "str" (.dct ks l) = some (.dat (.bl false)) := by
  have h : L2.kitB "dict" "str" = some false := by decide +kernel
  simp [fIsi, tyName, h]
theorem isi_tuple_non  : fIsi "tuple" .non = some (.dat (.bl false)) := by
  have h : L2.kitB "NoneType" "tuple" = some false := by decide +kernel
  simp [fIsi, tyName, h]
theorem isi_tuple_bl (b : Bool) : fIsi "tuple" (.bl b) = some (.dat (.bl false)) := by
  have h : L2.kitB "bool" "tuple" = some false := by decide +kernel
  simp [fIsi, tyName, h]
theorem isi_tuple_int (i : Int) : fIsi "tuple" (.int i) = some (.dat (.bl false)) := by
  have h : L2.kitB "int" "tuple" = some false := by decide +kernel
  simp [fIsi, tyName, h]
theorem isi_tuple_str (x : Str) : fIsi "tuple" (.str x) = some (.dat (.bl false)) := by
  have h : L2.kitB "str" "tuple" = some false := by decide +kernel
  simp [fIsi, tyName, h]
theorem isi_tuple_tup (l : List D) : fIsi "tuple" (.tup l) = some (.dat (.bl true)) := by
  have h : L2.kitB "tuple" "tuple" = some true := by decide +kernel
  simp [fIsi, tyName, h]
theorem isi_tuple_lst (l : List D) : fIsi "tuple" (.lst l) = some (.dat (.bl false)) := by
  have h : L2.kitB "list" "tuple" = some false := by decide +kernel
  simp [fIsi, tyName, h]
theorem isi_tuple_dct (ks : List L2.Key) (l : List D) : fIsi "tuple" (.dct ks l) = some (.dat (.bl false)) := by
  have h : L2.kitB "dict" "tuple" = some false := by decide +kernel
  simp [fIsi, tyName, h]
theorem isi_list_non  : fIsi "list" .non = some (.dat (.bl false)) := by
  have h : L2.kitB "NoneType" "list" = some false := by decide +kernel
  simp [fIsi, tyName, h]
theorem isi_list_bl (b : Bool) : fIsi "list" (.bl b) = some (.dat (.bl false)) := by
  have h : L2.kitB "bool" "list" = some false := by decide +kernel
  simp [fIsi, tyName, h]
theorem isi_list_int (i : Int) : fIsi "list" (.int i) = some (.dat (.bl false)) := by
  have h : L2.kitB "int" "list" = some false := by decide +kernel
  simp [fIsi, tyName, h]
theorem isi_list_str (x : Str) : fIsi "list" (.str x) = some (.dat (.bl false)) := by
  have h : L2.kitB "str" "list" = some false := by decide +kernel
  simp [fIsi, tyName, h]
theorem isi_list_tup (l : List D) : fIsi "list" (.tup l) = some (.dat (.bl false)) := by
  have h : L2.kitB "tuple" "list" = some false := by decide +kernel
  simp [fIsi, tyName, h]
theorem isi_list_lst (l : List D) : fIsi "list" (.lst l) = some (.dat (.bl true)) := by
  have h : L2.kitB "list" "list" = some true := by decide +kernel
  simp [fIsi, tyName, h]
theorem isi_list_dct (ks : List L2.Key) (l : List D) : fIsi "list" (.dct ks l) = some (.dat (.bl false)) := by
  have h : L2.kitB "dict" "list" = some false := by decide +kernel
  simp [fIsi, tyName, h]
/-- a small letter -/
def Lz (x : Str) : Prop := ∃ c, x = ⟨#[c]⟩ ∧ 97 ≤ c ∧ c ≤ 122
theorem Lz.len {x : Str} (h : Lz x) : x.length = 1 := by
  obtain ⟨c, rfl, _⟩ := h
  rfl
theorem Lz.ok {x : Str} (h : Lz x) : StrOk x := by
  obtain ⟨c, rfl, h1, h2⟩ := h
  exact .ltr (by omega)
/-- data whose kind is known; texts not too long -/
def Pl : D → Prop
  | .str x => x.length ≤ 1000000
  | .obj _ _ => False
  | .fn _ => False
  | .scr _ => False
  | _ => True
def smallC (c : Nat) : Bool := decide (97 ≤ c) && decide (c ≤ 122)
def nameB : D → Bool
  | .str x => decide (1 ≤ x.length) && decide (x.length ≤ 8) && x.cps.toList.all smallC
  | _ => false
def letterB : D → Bool
  | .str x => decide (x.length = 1) && x.cps.toList.all smallC
  | _ => false
def wholeB : D → Bool
  | .int i => decide (0 ≤ i)
  | _ => false
def belowB (n : Nat) : D → Bool
  | .int i => decide (i < n)
  | _ => false
def ticketB : D → Bool
  | .tup [a, b] => letterB a && wholeB b
  | _ => false
def posB : D → Bool
  | .int i => decide (0 < i)
  | _ => false
def lineB : D → Bool
  | .tup [a, b, c] => letterB a && wholeB b && posB c
  | _ => false
def Pls : D → Prop
  | .tup l => ∀ d ∈ l, Pl d
  | d => Pl d
theorem letter_name {d : D} (h : letterB d = true) : nameB d = true := by
  cases d <;> simp_all [letterB, nameB]
theorem lz_letter {x : Str} (h : Lz x) : letterB (.str x) = true := by
  obtain ⟨c, rfl, h1, h2⟩ := h
  simp [letterB, smallC, h1, h2]
  rfl
theorem abc_cps : (Str.ofString "abcdefghijklmnopqrstuvwxyz").cps.toList = (List.range 26).map (97 + ·) := by decide +kernel
theorem in_abc (c : Nat) : fIn false (.str ⟨#[c]⟩) (.str (Str.ofString "abcdefghijklmnopqrstuvwxyz")) = some (.dat (.bl (smallC c))) := by
  have e : decide (c ∈ (Str.ofString "abcdefghijklmnopqrstuvwxyz").cps.toList) = smallC c := by
    rw [abc_cps, Bool.eq_iff_iff]
    simp only [decide_eq_true_eq, List.mem_map, List.mem_range, smallC, Bool.and_eq_true]
    constructor
    · rintro ⟨a, h1, rfl⟩
      omega
    · rintro ⟨h1, h2⟩
      exact ⟨c - 97, by omega, by omega⟩
  unfold fIn orE fInS oneSign
  simp only [Bool.false_xor, e]
/-! ### tickets, lines -/
abbrev tD (t : Tt) : D := .tup [.str t.1, .int t.2]
abbrev lD (a : Ln) : D := .tup [.str a.l, .int a.f, .int a.s]
abbrev tP (t : Tt) : PyData := .tuple [.str t.1, .int t.2]
abbrev lP (a : Ln) : PyData := .tuple [.str a.l, .int a.f, .int a.s]
theorem Lz.fine {B k n : Nat} {x : Str} (h : Lz x) (hn : 1 ≤ n) : Fine B k n (.str x) (.str x) := by
  obtain ⟨c, rfl, h1, h2⟩ := h
  exact fi_ltr (by omega) hn
/-- numbers from 0 to a bound -/
structure Tq (N : Nat) (t : Tt) : Prop where
  l : Lz t.1
  n0 : 0 ≤ t.2
  n1 : t.2 < N
structure Lq (N : Nat) (a : Ln) : Prop where
  l : Lz a.l
  f0 : 0 ≤ a.f
  f1 : a.f < N
  s0 : 0 < a.s
  s1 : a.s < N
theorem Tq.more {N M : Nat} {t : Tt} (h : Tq N t) (hm : N ≤ M) : Tq M t := ⟨h.l, h.n0, by have := h.n1; omega⟩
theorem Lq.more {N M : Nat} {t : Ln} (h : Lq N t) (hm : N ≤ M) : Lq M t := ⟨h.l, h.f0, by have := h.f1; omega, h.s0, by have := h.s1; omega⟩
theorem Tq.fine {N : Nat} {t : Tt} (h : Tq N t) (hN : N ≤ 10 ^ 190) : Fine 200 1 3 (tD t) (tP t) :=
  fi_tup ((fs_cons (n' := 1) (h.l.fine (Nat.le_refl 1)) ((fs_cons (n := 0) (n' := 0) (fi_int (by have := h.n0; have := h.n1; omega)) fs_nil).more (Nat.le_refl _) (by omega))).more (Nat.zero_le _) (by omega))
theorem Lq.fine {N : Nat} {t : Ln} (h : Lq N t) (hN : N ≤ 10 ^ 190) : Fine 200 1 4 (lD t) (lP t) :=
  fi_tup ((fs_cons (k := 0) (n := 1) (n' := 2) (h.l.fine (Nat.le_refl 1)) ((fs_cons (n := 0) (n' := 1) (fi_int (by have := h.f0; have := h.f1; omega)) ((fs_cons (n := 0) (n' := 0) (fi_int (by have := h.s0; have := h.s1; omega)) fs_nil).more (Nat.le_refl _) (by omega))).more (Nat.le_refl _) (by omega))).more (Nat.zero_le _) (by omega))
theorem heads_fine {N : Nat} {H : List Tt} (h : ∀ t ∈ H, Tq N t) (hN : N ≤ 10 ^ 190) : Fine 200 2 (H.length * 4) (.tup (H.map tD)) (.tuple (H.map tP)) := fi_tup (fs_map fun t ht => (h t ht).fine hN)
theorem tails_fine {N : Nat} {T : List Ln} (h : ∀ t ∈ T, Lq N t) (hN : N ≤ 10 ^ 190) : Fine 200 2 (T.length * 5) (.tup (T.map lD)) (.tuple (T.map lP)) := fi_tup (fs_map fun t ht => (h t ht).fine hN)
abbrev fD (H : List Tt) (T : List Ln) : D := .tup [.tup (H.map tD), .tup (T.map lD)]
abbrev fP (H : List Tt) (T : List Ln) : PyData := .tuple [.tuple (H.map tP), .tuple (T.map lP)]
theorem form_fine {N : Nat} {H : List Tt} {T : List Ln} (h : ∀ t ∈ H, Tq N t) (h' : ∀ t ∈ T, Lq N t) (hN : N ≤ 10 ^ 190) : Fine 200 3 (H.length * 4 + T.length * 5 + 2) (fD H T) (fP H T) :=
  fi_tup ((fs_cons (heads_fine h hN) (fs_cons (tails_fine h' hN) (fs_nil (n := 0)))).more (Nat.le_refl _) (by omega))
theorem eqv_tt (a b : Tt) : PyData.eqv (tP a) (tP b) = decide (a = b) := by
  simp only [PyData.eqv, PyData.eqvAll, Bool.and_true]
  rw [Bool.eq_iff_iff]
  simp [Prod.ext_iff]
theorem eqv_nil (l : List PyData) : PyData.eqv (.tuple l) (.tuple []) = l.isEmpty := by
  cases l <;> simp [PyData.eqv, PyData.eqvAll]
theorem eq_nilT {N : Nat} {T : List Ln} (neg : Bool) (h : ∀ t ∈ T, Lq N t) (hN : N ≤ 10 ^ 190) : eqF neg (.tup (T.map lD)) (.tup []) = some (.dat (.bl (neg ^^ T.isEmpty))) := by
  rw [(tails_fine h hN).eq neg (fi_tup (k := 0) (n := 0) fs_nil), eqv_nil]
  cases T <;> rfl
theorem eq_nilH {N : Nat} {T : List Tt} (neg : Bool) (h : ∀ t ∈ T, Tq N t) (hN : N ≤ 10 ^ 190) : eqF neg (.tup (T.map tD)) (.tup []) = some (.dat (.bl (neg ^^ T.isEmpty))) := by
  rw [(heads_fine h hN).eq neg (fi_tup (k := 0) (n := 0) fs_nil), eqv_nil]
  cases T <;> rfl
/-! what the program works out of tickets and lines -/
def tellsB (a : Ln) (t : Tt) : Bool := decide (t.1 = a.l) && decide (a.f ≤ t.2) && decide ((t.2 - a.f) % a.s = 0)
theorem tellsB_iff {a : Ln} {t : Tt} : tellsB a t = true ↔ tells a t := by
  unfold tellsB tells
  simp only [Bool.and_eq_true, decide_eq_true_eq, and_assoc]
  refine and_congr_right fun _ => and_congr_right fun _ => ?_
  exact ⟨Int.dvd_of_emod_eq_zero, Int.emod_eq_zero_of_dvd⟩
def backD (a : Ln) (t : Tt) : D := if tellsB a t = true then .int ((t.2 - a.f) / a.s) else .non
def meetB (a b : Ln) : Bool := decide (a.l = b.l) && decide ((b.f - a.f) % (Int.gcd a.s b.s : Int) = 0)
theorem meetB_iff {a b : Ln} : meetB a b = false ↔ Apart a b := by
  unfold meetB Fm.Apart
  rw [Bool.eq_false_iff]
  simp only [ne_eq, Bool.and_eq_true, decide_eq_true_eq, not_and]
  refine forall_congr' fun _ => not_congr ?_
  exact ⟨Int.dvd_of_emod_eq_zero, Int.emod_eq_zero_of_dvd⟩
def metB (T : List Ln) (k : Nat) : Bool := match T[k]? with
  | some a => (T.take k).any fun b => meetB b a
  | none => false
theorem metB_iff {T : List Ln} : (∀ k < T.length, metB T k = false) ↔ T.Pairwise Apart := by
  rw [List.pairwise_iff_getElem]
  constructor
  · intro h i j hi hj hij
    have := h j hj
    unfold metB at this
    rw [List.getElem?_eq_getElem hj] at this
    simp only [List.any_eq_false, Bool.not_eq_true] at this
    exact meetB_iff.mp (this T[i] (List.mem_take_iff_getElem.mpr ⟨i, by omega, rfl⟩))
  · intro h k hk
    unfold metB
    rw [List.getElem?_eq_getElem hk]
    simp only [List.any_eq_false, Bool.not_eq_true]
    intro b hb
    obtain ⟨i, hi, rfl⟩ := List.mem_take_iff_getElem.mp hb
    exact meetB_iff.mpr (h i k (by omega) hk (by omega))
def allB (b : D → Bool) : D → Bool
  | .tup l => decide (l.length ≤ 240) && l.all b
  | _ => false
/-- the parts' parts are plain -/
def Plss : D → Prop
  | .tup l => ∀ d ∈ l, Pls d
  | d => Pl d
theorem Lz.pl {x : Str} (h : Lz x) : Pl (.str x) := by
  show x.length ≤ 1000000
  rw [h.len]
  omega
theorem Tq.pls {N : Nat} {t : Tt} (h : Tq N t) : Pls (tD t) := by
  intro d hd
  simp only [List.mem_cons, List.not_mem_nil, or_false] at hd
  rcases hd with rfl | rfl
  · exact h.l.pl
  · exact trivial
theorem Lq.pls {N : Nat} {t : Ln} (h : Lq N t) : Pls (lD t) := by
  intro d hd
  simp only [List.mem_cons, List.not_mem_nil, or_false] at hd
  rcases hd with rfl | rfl | rfl
  · exact h.l.pl
  · exact trivial
  · exact trivial
theorem Tq.is {N : Nat} {t : Tt} (h : Tq N t) : ticketB (tD t) = true := by simp [ticketB, lz_letter h.l, wholeB, h.n0]
theorem Lq.is {N : Nat} {t : Ln} (h : Lq N t) : lineB (lD t) = true := by simp [lineB, lz_letter h.l, wholeB, posB, h.f0, h.s0]
theorem heads_is {N : Nat} {H : List Tt} (h : ∀ t ∈ H, Tq N t) (hl : H.length ≤ 240) : allB ticketB (.tup (H.map tD)) = true := by
  simp only [allB, List.length_map, hl, decide_true, Bool.true_and, List.all_map, List.all_eq_true]
  exact fun t ht => (h t ht).is
theorem tails_is {N : Nat} {H : List Ln} (h : ∀ t ∈ H, Lq N t) (hl : H.length ≤ 240) : allB lineB (.tup (H.map lD)) = true := by
  simp only [allB, List.length_map, hl, decide_true, Bool.true_and, List.all_map, List.all_eq_true]
  exact fun t ht => (h t ht).is
theorem heads_pl {N : Nat} {H : List Tt} (h : ∀ t ∈ H, Tq N t) : Plss (.tup (H.map tD)) := by
  intro d hd
  obtain ⟨t, ht, rfl⟩ := List.mem_map.mp hd
  exact (h t ht).pls
theorem tails_pl {N : Nat} {H : List Ln} (h : ∀ t ∈ H, Lq N t) : Plss (.tup (H.map lD)) := by
  intro d hd
  obtain ⟨t, ht, rfl⟩ := List.mem_map.mp hd
  exact (h t ht).pls
theorem sm190 {N : Nat} {i : Int} (h0 : 0 ≤ i) (h1 : i < N) (hN : N ≤ 10 ^ 190) : i.natAbs < 2 ^ 2000 := sm (m := 10 ^ 190) h0 (by omega)
theorem gcd_pos {p q : Int} (hp : 0 < p) : 0 < (Int.gcd p q : Int) := by
  have : Int.gcd p q ≠ 0 := by
    intro h
    rw [Int.gcd_eq_zero_iff] at h
    omega
  omega
/-! sets of tickets -/
theorem once_le {α : Type} [DecidableEq α] : ∀ l : List α, (once l).length ≤ l.length
  | [] => Nat.le_refl _
  | x :: l => by
    unfold once
    have := once_le l
    split <;> simp <;> omega
theorem once_eq {α : Type} [DecidableEq α] : ∀ {l : List α}, (once l).length = l.length ↔ l.Nodup
  | [] => by simp [once]
  | x :: l => by
    unfold once
    have h1 := once_le l
    have h2 := once_eq (l := l)
    rw [List.nodup_cons]
    split
    · rename_i hx
      constructor
      · intro h
        rw [List.length_cons] at h
        omega
      · intro h
        exact absurd hx h.1
    · rename_i hx
      rw [List.length_cons, List.length_cons, Nat.add_right_cancel_iff, h2]
      exact ⟨fun h => ⟨hx, h⟩, fun h => h.2⟩
theorem tups_tt : ∀ H : List Tt, tupsK (H.map tD) = some (H.map fun t => [.inr t.1, .inl t.2])
  | [] => rfl
  | t :: H => by simp [tupsK, tupK, keysD, keyD, tups_tt H]
theorem nodup_map_iff {α β : Type} {f : α → β} (hf : ∀ a b, f a = f b → a = b) : ∀ {l : List α}, (l.map f).Nodup ↔ l.Nodup
  | [] => by simp
  | x :: l => by
    rw [List.map_cons, List.nodup_cons, List.nodup_cons, nodup_map_iff hf]
    refine and_congr_left fun _ => not_congr ?_
    rw [List.mem_map]
    constructor
    · rintro ⟨y, hy, e⟩
      exact hf _ _ e ▸ hy
    · intro h
      exact ⟨x, h, rfl⟩
theorem set_tt (H : List Tt) (h : H.length < 300) : ∃ m : Nat, fLenSet (.tup (H.map tD)) = some (.dat (.int m)) ∧ fLenSet (.lst (H.map tD)) = some (.dat (.int m)) ∧ m ≤ H.length ∧ (m = H.length ↔ H.Nodup) := by
  refine ⟨(once (H.map fun t => ([.inr t.1, .inl t.2] : List L2.Key))).length, ?_, ?_, ?_, ?_⟩
  · simp only [fLenSet, tups_tt, List.length_map, h, if_true]
  · simp only [fLenSet, tups_tt, List.length_map, h, if_true]
  · have := once_le (H.map fun t => ([.inr t.1, .inl t.2] : List L2.Key))
    rwa [List.length_map] at this
  · have e := once_eq (l := H.map fun t => ([.inr t.1, .inl t.2] : List L2.Key))
    rw [List.length_map] at e
    rw [e]
    refine nodup_map_iff fun a b hab => ?_
    simp at hab
    exact Prod.ext hab.1 hab.2
end Tk
/-! TkT: what repr tells is made of signs that may lie in a text; lists of such texts compared. -/
namespace Tk
open PySem PyProof.Rows
def Sgn (x : Str) : Prop := ∀ c ∈ x.cps.toList, c < 0x110000
theorem Sgn.ok {x : Str} (h : Sgn x) : PyData.strOk x = true := by
  unfold PyData.strOk
  refine Array.all_eq_true_iff_forall_mem.mpr fun c hc => ?_
  exact decide_eq_true (h c (Array.mem_toList_iff.mpr hc))
theorem Sgn.of {x : Str} (h : PyData.strOk x = true) : Sgn x := fun c hc => by
  unfold PyData.strOk at h
  have := (Array.all_eq_true_iff_forall_mem.mp h) c (Array.mem_toList_iff.mp hc)
  simpa using this
theorem char_lt (c : Char) : c.toNat < 0x110000 := by
  have h := c.valid
  rcases h with h | ⟨_, h⟩
  · exact Nat.lt_trans h (by decide)
  · exact h
theorem sgn_of (s : String) : Sgn (Str.ofString s) := fun c hc => by
  rw [signs_ofString] at hc
  obtain ⟨ch, _, rfl⟩ := List.mem_map.mp hc
  exact char_lt ch
theorem Sgn.app {x y : Str} (h : Sgn x) (k : Sgn y) : Sgn (x ++ y) := fun c hc => by
  rcases mem_cps_append.mp hc with z | z
  · exact h c z
  · exact k c z
theorem Sgn.join {sep : Str} {ts : List Str} (h : Sgn sep) (k : ∀ t ∈ ts, Sgn t) : Sgn (Str.join sep ts) := fun c hc => by
  rcases (mem_join sep c ts).mp hc with ⟨t, ht, z⟩ | ⟨_, z⟩
  · exact k t ht c z
  · exact h c z
theorem reprChar_sgn {q c : Nat} (hc : c < 0x110000) : ∀ x ∈ Builtin.Str.reprChar q c, x < 0x110000 := by
  have hx : ∀ w : Nat, ∀ x ∈ List.replicate w 48 ++ (Nat.toDigits 16 c).map Char.toNat, x < 0x110000 := fun w x h => by
    rcases List.mem_append.mp h with z | z
    · have := List.eq_of_mem_replicate z
      omega
    · obtain ⟨ch, _, rfl⟩ := List.mem_map.mp z
      exact char_lt ch
  intro x h
  unfold Builtin.Str.reprChar at h
  dsimp only at h
  have two : ∀ a b : Nat, a < 0x110000 → b < 0x110000 → ∀ w : Nat, x ∈ [a, b] ++ (List.replicate w 48 ++ (Nat.toDigits 16 c).map Char.toNat) → x < 0x110000 := fun a b ha hb w z => by
    rcases List.mem_append.mp z with z | z
    · simp only [List.mem_cons, List.not_mem_nil, or_false] at z
      omega
    · exact hx w x z
  repeat' split at h
  all_goals first | exact two _ _ (by decide) (by decide) _ h | (simp only [List.mem_cons, List.not_mem_nil, or_false] at h; omega)
theorem fold_sgn {q : Nat} : ∀ (l : List Nat) (acc : Array Nat), (∀ c ∈ l, c < 0x110000) → (∀ c ∈ acc.toList, c < 0x110000) → ∀ c ∈ (l.foldl (fun out c => out ++ (Builtin.Str.reprChar q c).toArray) acc).toList, c < 0x110000
  | [], acc, _, h => h
  | a :: r, acc, h, k => by
    rw [List.foldl_cons]
    refine fold_sgn r _ (fun c hc => h c (List.mem_cons_of_mem _ hc)) fun c hc => ?_
    rw [Array.toList_append, List.mem_append] at hc
    rcases hc with z | z
    · exact k c z
    · exact reprChar_sgn (h a (List.mem_cons_self ..)) c z
theorem reprText_sgn {x : Str} (h : Sgn x) : Sgn (reprText x) := by
  unfold reprText
  have hq : reprQuote x < 0x110000 := by
    unfold reprQuote
    split <;> decide
  intro c hc
  simp only [Array.toList_push, List.mem_append, List.mem_singleton] at hc
  rcases hc with z | rfl
  · rw [← Array.foldl_toList] at z
    exact fold_sgn _ _ h (fun c hc => by
      have : c = reprQuote x := by simpa using hc
      omega) c z
  · exact hq
mutual
theorem shown_sgn : ∀ p : PyData, p.canLay0 = true → Sgn p.shown
  | .none, _ => by rw [PyData.shown_none]; exact sgn_of _
  | .bool b, _ => by
    rw [PyData.shown_bool]
    cases b <;> exact sgn_of _
  | .int i, _ => by rw [PyData.shown_int]; exact sgn_of _
  | .str x, h => by
    rw [PyData.shown_str]
    exact reprText_sgn (.of (by simpa only [PyData.canLay0] using h))
  | .list xs, h => by
    rw [PyData.shown_list]
    exact ((sgn_of _).app (.join (sgn_of _) (shownAll_sgn xs (by simpa only [PyData.canLay0] using h)))).app (sgn_of _)
  | .tuple xs, h => by
    rw [PyData.shown_tuple]
    exact ((sgn_of _).app (.join (sgn_of _) (shownAll_sgn xs (by simpa only [PyData.canLay0] using h)))).app (sgn_of _)
  | .dict kvs, h => by simp [PyData.canLay0] at h
theorem shownAll_sgn : ∀ xs : List PyData, PyData.canLayAll0 xs = true → ∀ t ∈ PyData.shownAll xs, Sgn t
  | [], _, t, ht => by rw [PyData.shownAll_nil] at ht; cases ht
  | x :: xs, h, t, ht => by
    have h' : x.canLay0 = true ∧ PyData.canLayAll0 xs = true := by simpa only [PyData.canLayAll0, Bool.and_eq_true] using h
    rw [PyData.shownAll_cons, List.mem_cons] at ht
    rcases ht with rfl | ht
    · exact shown_sgn x h'.1
    · exact shownAll_sgn xs h'.2 t ht
end
end Tk
/-! TkB: things of any kind, nested, not too big: they are told by repr, and they are plain. -/
namespace Tk
open PySem
mutual
def ib : PyData → Bool
  | .int i => decide (i.natAbs < 10 ^ 60)
  | .list xs => ibs xs
  | .tuple xs => ibs xs
  | _ => true
def ibs : List PyData → Bool
  | [] => true
  | x :: xs => ib x && ibs xs
end
def Th (k n : Nat) (d : D) : Prop := ∃ p, toPyD d = some p ∧ p.depth ≤ k ∧ (p.showable = true ∧ ib p = true) ∧ p.leavesShort 200 = true ∧ p.bulk ≤ n
def Ths (k n : Nat) (l : List D) : Prop := ∃ p, toPysD l = some p ∧ PyData.depthAll p ≤ k ∧ (PyData.showableAll p = true ∧ ibs p = true) ∧ PyData.leavesShortAll 200 p = true ∧ PyData.bulkAll p ≤ n
theorem Th.more {k k' n n' : Nat} {d : D} (h : Th k n d) (hk : k ≤ k') (hn : n ≤ n') : Th k' n' d := by
  obtain ⟨p, a, b, c, e, f⟩ := h
  exact ⟨p, a, by omega, c, e, by omega⟩
theorem Fine.th {k n : Nat} {d : D} {p : PyData} (h : Fine 200 k n d p) (e : toPyD d = some p) (hi : ib p = true) : Th k n d := ⟨p, e, h.d, ⟨h.s, hi⟩, h.l, h.b⟩
theorem Th.repr {k n : Nat} {d : D} (h : Th k n d) (hk : k ≤ 64 := by omega) (hn : 202 * n + 200 ≤ 1000000 := by omega) : ∃ x, fReprD d = some (.dat (.str x)) := by
  obtain ⟨p, a, b, c, e, f⟩ := h
  refine ⟨p.shown, ?_⟩
  unfold fReprD
  rw [a]
  have := PyData.shown_le_bulk 200 (by omega) p e
  have : (200 + 2) * p.bulk ≤ 202 * n := Nat.mul_le_mul_left _ f
  simp only
  rw [if_pos ⟨c.1, by omega, decide_eq_true (by omega)⟩]
theorem Th.pl {k n : Nat} {d : D} (h : Th k n d) (hn : n ≤ 1000000 := by omega) : Pl d := by
  obtain ⟨p, a, b, c, e, f⟩ := h
  cases d with
  | str x =>
    have : p = .str x := by
      unfold toPyD at a
      exact (Option.some.inj a).symm
    subst this
    simp only [PyData.bulk] at f
    show x.cps.size ≤ 1000000
    omega
  | obj => unfold toPyD at a; cases a
  | fn => unfold toPyD at a; cases a
  | scr => unfold toPyD at a; cases a
  | _ => trivial
theorem ths_mem {k n : Nat} : ∀ {l : List D}, Ths k n l → ∀ d ∈ l, Th k n d
  | [], _, d, hd => by cases hd
  | x :: l, h, d, hd => by
    obtain ⟨p, a, b, c, e, f⟩ := h
    unfold toPysD at a
    split at a
    · rename_i q qs h1 h2
      cases a
      simp only [PyData.depthAll, PyData.showableAll, ibs, PyData.leavesShortAll, PyData.bulkAll, Bool.and_eq_true] at b c e f
      have b' := Nat.max_le.mp b
      rcases List.mem_cons.mp hd with rfl | hd
      · exact ⟨q, h1, b'.1, ⟨c.1.1, c.2.1⟩, e.1, by omega⟩
      · exact ths_mem ⟨qs, h2, b'.2, ⟨c.1.2, c.2.2⟩, e.2, by omega⟩ d hd
    · cases a
theorem Th.mem {k n : Nat} {l : List D} (h : Th (k + 1) n (.tup l)) : ∀ d ∈ l, Th k n d := by
  obtain ⟨p, a, b, c, e, f⟩ := h
  unfold toPyD at a
  cases hp : toPysD l with
  | none => rw [hp] at a; cases a
  | some q =>
    rw [hp] at a
    cases a
    simp only [PyData.depth, PyData.showable, ib, PyData.leavesShort, PyData.bulk] at b c e f
    exact ths_mem ⟨q, hp, by omega, c, e, f⟩
theorem Th.mem' {k n : Nat} {l : List D} (h : Th k n (.tup l)) : ∀ d ∈ l, Th k n d := (h.more (Nat.le_succ k) (Nat.le_refl n)).mem
theorem Th.pls {k n : Nat} {d : D} (h : Th k n d) (hn : n ≤ 1000000 := by omega) : Pls d := by
  cases d with
  | tup l => exact fun d hd => (h.mem' d hd).pl hn
  | _ => exact h.pl hn
theorem Th.plss {k n : Nat} {d : D} (h : Th k n d) (hn : n ≤ 1000000 := by omega) : Plss d := by
  cases d with
  | tup l => exact fun d hd => (h.mem' d hd).pls hn
  | _ => exact h.pl hn
theorem Th.int {k n : Nat} {i : Int} (h : Th k n (.int i)) : i.natAbs < 10 ^ 60 := by
  obtain ⟨p, a, b, c, e, f⟩ := h
  unfold toPyD at a
  cases a
  have := c.2
  unfold ib at this
  exact of_decide_eq_true this
open Fm
end Tk
/-! Fm2: forms made longer. -/
namespace Fm
open PySem
/-- the line at a place of a tail, from there on -/
def onP (T : List Ln) (p : Nat) : Ln := ((T[p % T.length]?).getD ⟨⟨#[]⟩, 0, 0⟩).on ((p / T.length : Nat) : Int)
/-- told so much seldomer -/
def Ln.slow (a : Ln) (t : Nat) : Ln := ⟨a.l, a.f, a.s * t⟩
def Ln.tick (a : Ln) : Tt := (a.l, a.f)
def lgH (H : List Tt) (T : List Ln) (m : Nat) : List Tt := H ++ (List.range m).map fun k => (onP T k).tick
def lgT (T : List Ln) (m t : Nat) : List Ln := (List.range (T.length * t)).map fun k => (onP T (m + k)).slow t
theorem onP_get {T : List Ln} (h : T ≠ []) (p : Nat) : ∃ a, T[p % T.length]? = some a ∧ a ∈ T ∧ onP T p = a.on ((p / T.length : Nat) : Int) := by
  have hT : 0 < T.length := List.length_pos_iff.mpr h
  have e := List.getElem?_eq_getElem (Nat.mod_lt p hT)
  refine ⟨_, e, List.getElem_mem _, ?_⟩
  unfold onP
  rw [e]
  rfl
theorem on_on (a : Ln) (i j : Int) : (a.on i).on j = a.on (i + j) := by
  simp only [Ln.on, Int.add_mul, Int.add_assoc]
theorem stand_lt {H : List Tt} {T : List Ln} {p : Nat} (h : p < H.length) : stand H T p = H[p]? := if_pos h
theorem stand_tail {H : List Tt} {T : List Ln} (h : T ≠ []) (q : Nat) : stand H T (H.length + q) = some (onP T q).tick := by
  obtain ⟨a, e, _, eo⟩ := onP_get h q
  unfold stand
  rw [if_neg (by omega), Nat.add_sub_cancel_left, e, eo]
  rfl
theorem lgT_len (T : List Ln) (m t : Nat) : (lgT T m t).length = T.length * t := by simp [lgT]
theorem lgH_len (H : List Tt) (T : List Ln) (m : Nat) : (lgH H T m).length = H.length + m := by simp [lgH]
theorem lgT_get {T : List Ln} {m t k : Nat} (h : k < T.length * t) : (lgT T m t)[k]? = some ((onP T (m + k)).slow t) := by
  unfold lgT
  rw [List.getElem?_map, List.getElem?_range h]
  rfl
theorem onP_lg {T : List Ln} {m t : Nat} (h : T ≠ []) (ht : 0 < t) (q : Nat) : onP (lgT T m t) q = (onP T (m + q)).slow t := by
  have hT : 0 < T.length := List.length_pos_iff.mpr h
  have hn : 0 < T.length * t := Nat.mul_pos hT ht
  have e := lgT_get (T := T) (m := m) (Nat.mod_lt q hn)
  unfold onP
  rw [lgT_len, e, Option.getD_some]
  have hq := Nat.div_add_mod q (T.length * t)
  generalize hu : q / (T.length * t) = u at *
  generalize hv : q % (T.length * t) = v at *
  have e1 : (m + q) % T.length = (m + v) % T.length := by
    rw [← hq, show m + (T.length * t * u + v) = m + v + T.length * (t * u) by rw [Nat.mul_assoc]; omega, Nat.add_mul_mod_self_left]
  have e2 : (m + q) / T.length = (m + v) / T.length + t * u := by
    rw [← hq, show m + (T.length * t * u + v) = m + v + T.length * (t * u) by rw [Nat.mul_assoc]; omega, Nat.add_mul_div_left _ _ hT]
  unfold onP
  rw [e1, e2]
  simp only [Ln.on, Ln.slow, Ln.mk.injEq, true_and, and_true]
  generalize (T[(m + v) % T.length]?).getD ⟨⟨#[]⟩, 0, 0⟩ = a
  rw [Int.natCast_add, Int.natCast_mul, Int.add_mul, Int.add_assoc, Int.mul_comm (t : Int) u, Int.mul_assoc (u : Int) (t : Int) a.s, Int.mul_comm (t : Int) a.s]
/-- the same tickets at the same places -/
theorem stand_lg {H : List Tt} {T : List Ln} (h : T ≠ []) {m t : Nat} (ht : 0 < t) (p : Nat) : stand (lgH H T m) (lgT T m t) p = stand H T p := by
  have hT : 0 < T.length := List.length_pos_iff.mpr h
  have hlg : lgT T m t ≠ [] := by
    rw [← List.length_pos_iff, lgT_len]
    exact Nat.mul_pos hT ht
  by_cases h1 : p < H.length + m
  · rw [stand_lt (by rw [lgH_len]; exact h1)]
    unfold lgH
    by_cases h2 : p < H.length
    · rw [List.getElem?_append_left h2, stand_lt h2]
    · rw [List.getElem?_append_right (by omega), List.getElem?_map, List.getElem?_range (by omega)]
      obtain ⟨q, rfl⟩ : ∃ q, p = H.length + q := ⟨p - H.length, by omega⟩
      rw [stand_tail h, Nat.add_sub_cancel_left]
      rfl
  · obtain ⟨q, rfl⟩ : ∃ q, p = H.length + m + q := ⟨p - (H.length + m), by omega⟩
    have := stand_tail (H := lgH H T m) hlg q
    rw [lgH_len] at this
    rw [this, Nat.add_assoc, stand_tail h, onP_lg h ht]
    rfl
end Fm
/-! Fm3: least forms. -/
namespace Fm
open PySem
theorem onP_add {T : List Ln} (h : T ≠ []) (q j : Nat) : onP T (q + T.length * j) = (onP T q).on j := by
  have hT : 0 < T.length := List.length_pos_iff.mpr h
  unfold onP
  rw [Nat.add_mul_mod_self_left, Nat.add_mul_div_left _ _ hT, on_on, Int.natCast_add]
theorem onP_lt {T : List Ln} {i : Nat} {a : Ln} (h : T[i]? = some a) : onP T i = a := by
  have hi := (List.getElem?_eq_some_iff.mp h).1
  unfold onP
  rw [Nat.mod_eq_of_lt hi, Nat.div_eq_of_lt hi, h]
  simp [Ln.on]
/-- two places of a tail whose lines go the same way -/
structure Ev (T : List Ln) (q p : Nat) : Prop where
  l : (onP T q).l = (onP T p).l
  s : (onP T q).s = (onP T p).s
  f : (T.length : Int) * ((onP T p).f - (onP T q).f) = (onP T q).s * ((p : Int) - (q : Int))
theorem Ev.refl (T : List Ln) (q : Nat) : Ev T q q := ⟨rfl, rfl, by simp⟩
theorem Ev.symm {T : List Ln} {q p : Nat} (h : Ev T q p) : Ev T p q := ⟨h.l.symm, h.s.symm, by
  have := h.f
  rw [← h.s]
  rw [Int.mul_sub, Int.mul_sub] at this ⊢
  omega⟩
theorem Ev.trans {T : List Ln} {q p o : Nat} (h : Ev T q p) (k : Ev T p o) : Ev T q o := ⟨h.l.trans k.l, h.s.trans k.s, by
  have h1 := h.f
  have h2 := k.f
  rw [← h.s] at h2
  rw [Int.mul_sub, Int.mul_sub] at h1 h2 ⊢
  omega⟩
theorem Ev.shift {T : List Ln} (h : T ≠ []) {q p : Nat} (j : Nat) : Ev T (q + T.length * j) (p + T.length * j) ↔ Ev T q p := by
  have e1 := onP_add h q j
  have e2 := onP_add h p j
  constructor
  · intro k
    have k1 := k.l
    have k2 := k.s
    have k3 := k.f
    rw [e1, e2] at k1 k2 k3
    simp only [Ln.on] at k1 k2 k3
    refine ⟨k1, k2, ?_⟩
    rw [k2] at k3 ⊢
    rw [Int.natCast_add, Int.natCast_add] at k3
    rw [show (onP T p).f + (j : Int) * (onP T p).s - ((onP T q).f + (j : Int) * (onP T p).s) = (onP T p).f - (onP T q).f by omega] at k3
    rw [show (p : Int) + ((T.length * j : Nat) : Int) - ((q : Int) + ((T.length * j : Nat) : Int)) = (p : Int) - q by omega] at k3
    exact k3
  · intro k
    have k1 := k.l
    have k2 := k.s
    have k3 := k.f
    refine ⟨?_, ?_, ?_⟩ <;> rw [e1, e2] <;> simp only [Ln.on]
    · exact k1
    · exact k2
    · rw [k2] at k3 ⊢
      rw [Int.natCast_add, Int.natCast_add]
      rw [show (onP T p).f + (j : Int) * (onP T p).s - ((onP T q).f + (j : Int) * (onP T p).s) = (onP T p).f - (onP T q).f by omega]
      rw [show (p : Int) + ((T.length * j : Nat) : Int) - ((q : Int) + ((T.length * j : Nat) : Int)) = (p : Int) - q by omega]
      exact k3
/-- so many lines tell the same -/
def Sv (T : List Ln) (k : Nat) : Prop := ∀ q, Ev T q (q + k)
theorem Sv.zero (T : List Ln) : Sv T 0 := fun q => Ev.refl T q
theorem Sv.add {T : List Ln} {a b : Nat} (h : Sv T a) (k : Sv T b) : Sv T (a + b) := fun q => by
  have := (h q).trans (k (q + a))
  rwa [Nat.add_assoc] at this
theorem Sv.mul {T : List Ln} {a : Nat} (h : Sv T a) : ∀ j, Sv T (a * j)
  | 0 => Sv.zero T
  | j + 1 => (h.mul j).add h
theorem Sv.sub {T : List Ln} {a b : Nat} (h : Sv T a) (k : Sv T (b + a)) : Sv T b := fun q => by
  have h1 := k q
  have h2 := h (q + b)
  rw [Nat.add_assoc] at h2
  exact h1.trans h2.symm
theorem Sv.gcd {T : List Ln} (a b : Nat) : Sv T a → Sv T b → Sv T (Nat.gcd a b) := by
  refine Nat.gcd.induction (P := fun a b => Sv T a → Sv T b → Sv T (Nat.gcd a b)) a b ?_ ?_
  · intro b _ h
    rwa [Nat.gcd_zero_left]
  · intro m n hm ih h1 h2
    rw [Nat.gcd_rec]
    refine ih ?_ h1
    have h3 := h1.mul (n / m)
    refine h3.sub ?_
    rw [Nat.add_comm, Nat.div_add_mod]
    exact h2
theorem Sv.of {T : List Ln} (h : T ≠ []) {k : Nat} (b : Nat) (hs : ∀ q, b ≤ q → Ev T q (q + k)) : Sv T k := fun q => by
  have hT : 0 < T.length := List.length_pos_iff.mpr h
  have h1 : b ≤ T.length * b := Nat.le_mul_of_pos_left _ hT
  have := hs (q + T.length * b) (by omega)
  rw [show q + T.length * b + k = q + k + T.length * b by omega] at this
  exact (Ev.shift h b).mp this
theorem Sv.small {T : List Ln} (h : T ≠ []) {k : Nat} (hs : ∀ q, q < T.length → Ev T q (q + k)) : Sv T k := fun q => by
  have hT : 0 < T.length := List.length_pos_iff.mpr h
  have := (Ev.shift h (q / T.length)).mpr (hs (q % T.length) (Nat.mod_lt _ hT))
  rw [Nat.mod_add_div, show q % T.length + k + T.length * (q / T.length) = q % T.length + T.length * (q / T.length) + k by omega, Nat.mod_add_div] at this
  exact this
theorem Sv.all {T : List Ln} (h : T ≠ []) : Sv T T.length := fun q => by
  have e := onP_add h q 1
  rw [Nat.mul_one] at e
  refine ⟨?_, ?_, ?_⟩ <;> rw [e] <;> simp only [Ln.on]
  rw [Int.mul_comm]
  rw [show (onP T q).f + ((1 : Nat) : Int) * (onP T q).s - (onP T q).f = (onP T q).s by omega, show ((q + T.length : Nat) : Int) - (q : Int) = T.length by omega]
/-- no fewer lines tell the same -/
def Few (T : List Ln) : Prop := ∀ k, 0 < k → k ∣ T.length → Sv T k → k = T.length
theorem Few.dvd {T : List Ln} (h : T ≠ []) (f : Few T) {k : Nat} (hk : Sv T k) : T.length ∣ k := by
  have hT : 0 < T.length := List.length_pos_iff.mpr h
  have g := Sv.gcd T.length k (Sv.all h) hk
  have e := f (Nat.gcd T.length k) (Nat.gcd_pos_of_pos_left _ hT) (Nat.gcd_dvd_left _ _) g
  rw [← e]
  exact Nat.gcd_dvd_right _ _
/-- the lines that are enough -/
def few (T : List Ln) (k : Nat) : List Ln := (T.take k).map fun a => ⟨a.l, a.f, a.s * (k : Int) / (T.length : Int)⟩
/-! the head made shorter -/
/-- the last line, one turn back, put ahead -/
def bk (T : List Ln) : List Ln := match T.getLast? with
  | some a => a.on (-1) :: T.dropLast
  | none => []
/-- the form's head can't be made shorter -/
def Top (H : List Tt) (T : List Ln) : Prop := ∀ K t a S, H = K ++ [t] → T = S ++ [a] → t ≠ (a.on (-1)).tick
structure Lst (H : List Tt) (T : List Ln) : Prop where
  ne : T ≠ []
  few : Few T
  top : Top H T
/-- a least form is the only one of its row -/
theorem Lst.one {H H' : List Tt} {T T' : List Ln} (a : Lst H T) (b : Lst H' T') (e : ∀ p, stand H T p = stand H' T' p) : H = H' ∧ T = T' := by
  have nT : 0 < T.length := List.length_pos_iff.mpr a.ne
  have nT' : 0 < T'.length := List.length_pos_iff.mpr b.ne
  -- ticks behind both heads
  have tk : ∀ q p : Nat, H.length + q = H'.length + p → (onP T q).tick = (onP T' p).tick := fun q p h => by
    have h1 := stand_tail (H := H) a.ne q
    have h2 := stand_tail (H := H') b.ne p
    rw [e, h, h2] at h1
    exact (Option.some.inj h1).symm
  have tl : ∀ q p : Nat, H.length + q = H'.length + p → (onP T q).l = (onP T' p).l ∧ (onP T q).f = (onP T' p).f := fun q p h => by
    have := tk q p h
    simp only [Ln.tick, Prod.mk.injEq] at this
    exact this
  -- rates
  have rate : ∀ q p : Nat, H.length + q = H'.length + p → (T'.length : Int) * (onP T q).s = T.length * (onP T' p).s := fun q p h => by
    have h1 := (tl q p h).2
    have h2 := (tl (q + T.length * T'.length) (p + T'.length * T.length) (by rw [Nat.mul_comm T'.length]; omega)).2
    rw [onP_add a.ne, onP_add b.ne] at h2
    simp only [Ln.on] at h2
    omega
  have evs : ∀ q p q2 p2 : Nat, H.length + q = H'.length + p → H.length + q2 = H'.length + p2 → Ev T q q2 → Ev T' p p2 := fun q p q2 p2 h h2 v => by
    have t1 := tl q p h
    have t2 := tl q2 p2 h2
    have r1 := rate q p h
    have r2 := rate q2 p2 h2
    have hn : (T.length : Int) ≠ 0 := by omega
    refine ⟨t1.1.symm.trans (v.l.trans t2.1), ?_, ?_⟩
    · refine Int.eq_of_mul_eq_mul_left hn ?_
      rw [← r1, ← r2, v.s]
    · refine Int.eq_of_mul_eq_mul_left hn ?_
      have vf := v.f
      rw [← t1.2, ← t2.2, ← Int.mul_assoc, Int.mul_comm (T.length : Int), Int.mul_assoc, vf, ← Int.mul_assoc, r1, Int.mul_assoc]
      congr 2
      omega
  have sv1 : Sv T' T.length := Sv.of b.ne H.length fun p hp => by
    have h := evs (H'.length + p - H.length) p (H'.length + p - H.length + T.length) (p + T.length) (by omega) (by omega) (Sv.all a.ne _)
    exact h
  have evs' : ∀ q p q2 p2 : Nat, H.length + q = H'.length + p → H.length + q2 = H'.length + p2 → Ev T' p p2 → Ev T q q2 := fun q p q2 p2 h h2 v => by
    have t1 := tl q p h
    have t2 := tl q2 p2 h2
    have r1 := rate q p h
    have r2 := rate q2 p2 h2
    have hn : (T'.length : Int) ≠ 0 := by omega
    refine ⟨t1.1.trans (v.l.trans t2.1.symm), ?_, ?_⟩
    · refine Int.eq_of_mul_eq_mul_left hn ?_
      rw [r1, r2, v.s]
    · refine Int.eq_of_mul_eq_mul_left hn ?_
      have vf := v.f
      rw [t1.2, t2.2, ← Int.mul_assoc, Int.mul_comm (T'.length : Int), Int.mul_assoc, vf, ← Int.mul_assoc, ← r1, Int.mul_assoc]
      congr 2
      omega
  have sv2 : Sv T T'.length := Sv.of a.ne H'.length fun p hp => by
    have h := evs' p (H.length + p - H'.length) (p + T'.length) (H.length + p - H'.length + T'.length) (by omega) (by omega) (Sv.all b.ne _)
    exact h
  have nn : T.length = T'.length := Nat.dvd_antisymm (a.few.dvd a.ne sv2) (b.few.dvd b.ne sv1)
  have steps : ∀ q p : Nat, H.length + q = H'.length + p → (onP T q).s = (onP T' p).s := fun q p h => by
    have := rate q p h
    rw [nn] at this
    exact Int.eq_of_mul_eq_mul_left (by omega) this
  -- the heads' lengths
  have noless : ∀ {H H' : List Tt} {T T' : List Ln}, Lst H T → Lst H' T' → (∀ p, stand H T p = stand H' T' p) → T.length = T'.length → (∀ q p : Nat, H.length + q = H'.length + p → (onP T q).tick = (onP T' p).tick) → (∀ q p : Nat, H.length + q = H'.length + p → (onP T q).s = (onP T' p).s) → ¬ H.length < H'.length := by
    intro H H' T T' a b e nn tk steps hlt
    have hne : H' ≠ [] := by
      rintro rfl
      simp at hlt
    obtain ⟨K, t, rfl⟩ : ∃ K t, H' = K ++ [t] := ⟨H'.dropLast, H'.getLast hne, (List.dropLast_concat_getLast hne).symm⟩
    obtain ⟨S, l, rfl⟩ : ∃ S l, T' = S ++ [l] := ⟨T'.dropLast, T'.getLast b.ne, (List.dropLast_concat_getLast b.ne).symm⟩
    refine b.top K t l S rfl rfl ?_
    rw [List.length_append, List.length_singleton] at hlt nn
    have e1 := e K.length
    rw [stand_lt (H := K ++ [t]) (by simp), List.getElem?_append_right (Nat.le_refl _), Nat.sub_self] at e1
    have e2 := stand_tail (H := H) a.ne (K.length - H.length)
    rw [show H.length + (K.length - H.length) = K.length by omega, e1] at e2
    have e2 : t = (onP T (K.length - H.length)).tick := Option.some.inj e2
    have ol : onP (S ++ [l]) S.length = l := onP_lt (by rw [List.getElem?_append_right (Nat.le_refl _), Nat.sub_self]; rfl)
    have k1 := tk (K.length - H.length + T.length * 1) S.length (by simp; omega)
    have k2 := steps (K.length - H.length + T.length * 1) S.length (by simp; omega)
    rw [onP_add a.ne, ol] at k1 k2
    rw [e2]
    generalize onP T (K.length - H.length) = x at *
    simp only [Ln.tick, Ln.on, Prod.mk.injEq] at k1 k2 ⊢
    refine ⟨k1.1, ?_⟩
    rw [← k1.2, ← k2]
    omega
  have hh : H.length = H'.length := by
    have h1 := noless a b e nn tk steps
    have h2 := noless b a (fun p => (e p).symm) nn.symm (fun q p h => (tk p q h.symm).symm) (fun q p h => (steps p q h.symm).symm)
    omega
  refine ⟨List.ext_getElem? fun i => ?_, List.ext_getElem? fun i => ?_⟩
  · by_cases hi : i < H.length
    · have := e i
      rwa [stand_lt hi, stand_lt (by omega)] at this
    · rw [List.getElem?_eq_none (by omega), List.getElem?_eq_none (by omega)]
  · by_cases hi : i < T.length
    · have hi' : i < T'.length := by omega
      have o1 := onP_lt (List.getElem?_eq_getElem hi)
      have o2 := onP_lt (List.getElem?_eq_getElem hi')
      have t1 := tl i i (by omega)
      have t2 := steps i i (by omega)
      rw [o1, o2] at t1 t2
      rw [List.getElem?_eq_getElem hi, List.getElem?_eq_getElem hi']
      generalize T[i] = x at *
      generalize T'[i] = y at *
      obtain ⟨xl, xf, xs⟩ := x
      obtain ⟨yl, yf, ys⟩ := y
      simp only at t1 t2
      rw [t1.1, t1.2, t2]
    · rw [List.getElem?_eq_none (by omega), List.getElem?_eq_none (by omega)]
end Fm
/-! Fm4: a form is one where no ticket stands twice; what the program works out for least forms. -/
namespace Fm
open PySem
/-! what the program asks -/
def goesB (a b : Ln) (k n : Nat) : Bool := decide (b.l = a.l) && decide (b.s = a.s) && decide (a.s * (k : Int) % (n : Int) = 0) && decide (b.f - a.f = a.s * (k : Int) / (n : Int))
def serveB (T : List Ln) (k : Nat) : Bool := (List.range T.length).all fun i => goesB (onP T i) (onP T (i + k)) k T.length
end Fm
/-! Fm5: rows that are alike so far are alike for ever. -/
namespace Fm
abbrev Sq := Nat → Int
/-- an operator that tells of d places the next one -/
def Mon (L : Sq → Sq) (d : Nat) : Prop := ∀ x y p, (∀ i, i < d → x (p + i) = y (p + i)) → (L x p = L y p ↔ x (p + d) = y (p + d))
theorem Mon.comp {L1 L2 : Sq → Sq} {d1 d2 : Nat} (h1 : Mon L1 d1) (h2 : Mon L2 d2) : Mon (fun x => L1 (L2 x)) (d1 + d2) := fun x y p h => by
  have k : ∀ i, i < d1 → L2 x (p + i) = L2 y (p + i) := fun i hi => (h2 x y (p + i) fun j hj => by
    have := h (i + j) (by omega)
    rw [show p + i + j = p + (i + j) by omega]
    exact this).mpr (by
      rw [show p + i + d2 = p + (i + d2) by omega]
      exact h (i + d2) (by omega))
  refine (h1 (L2 x) (L2 y) p k).trans ((h2 x y (p + d1) fun j hj => ?_).trans ?_)
  · rw [show p + d1 + j = p + (d1 + j) by omega]
    exact h (d1 + j) (by omega)
  · rw [show p + d1 + d2 = p + (d1 + d2) by omega]
def dl (n : Nat) (x : Sq) : Sq := fun p => x (p + n) - x p
def sm (g : Nat) : Nat → Sq → Sq
  | 0, _ => fun _ => 0
  | k + 1, x => fun p => sm g k x p + x (p + k * g)
theorem mon_dl {n : Nat} (h : 0 < n) : Mon (dl n) n := fun x y p e => by
  have := e 0 h
  simp only [Nat.add_zero] at this
  unfold dl
  rw [this]
  omega
theorem sm_eq {g : Nat} (hg : 0 < g) : ∀ (k : Nat) {x y : Sq} {p : Nat}, (∀ i, i < k * g → x (p + i) = y (p + i)) → sm g k x p = sm g k y p
  | 0, _, _, _, _ => rfl
  | k + 1, x, y, p, h => by
    have e : (k + 1) * g = k * g + g := Nat.succ_mul k g
    show sm g k x p + x (p + k * g) = sm g k y p + y (p + k * g)
    rw [sm_eq hg k fun i hi => h i (by omega), h (k * g) (by omega)]
theorem mon_sm {g : Nat} (hg : 0 < g) (k : Nat) : Mon (sm g (k + 1)) (k * g) := fun x y p e => by
  show sm g k x p + x (p + k * g) = sm g k y p + y (p + k * g) ↔ _
  rw [sm_eq hg k e]
  omega
theorem sm_dl (g n : Nat) : ∀ (k : Nat) (x : Sq), sm g k (dl n x) = dl n (sm g k x)
  | 0, x => by
    funext p
    simp [sm, dl]
  | k + 1, x => by
    funext p
    show sm g k (dl n x) p + dl n x (p + k * g) = (sm g k x (p + n) + x (p + n + k * g)) - (sm g k x p + x (p + k * g))
    rw [sm_dl g n k x]
    unfold dl
    rw [show p + k * g + n = p + n + k * g by omega]
    omega
theorem tele (g : Nat) : ∀ (k : Nat) (x : Sq), dl g (sm g k x) = dl (k * g) x
  | 0, x => by
    funext p
    simp [sm, dl]
  | k + 1, x => by
    funext p
    have ih := congrFun (tele g k x) p
    have e : (k + 1) * g = k * g + g := Nat.succ_mul k g
    unfold dl at ih ⊢
    show (sm g k x (p + g) + x (p + g + k * g)) - (sm g k x p + x (p + k * g)) = x (p + (k + 1) * g) - x p
    rw [e, show p + g + k * g = p + (k * g + g) by omega]
    omega
theorem sm_zero (g : Nat) : ∀ (k : Nat) {x : Sq}, (∀ p, x p = 0) → ∀ p, sm g k x p = 0
  | 0, _, _, _ => rfl
  | k + 1, x, h, p => by
    show sm g k x p + x (p + k * g) = 0
    rw [sm_zero g k h, h]
    rfl
/-- from so many places on the same -/
theorem mon_all {L : Sq → Sq} {d : Nat} (hL : Mon L d) {x y : Sq} (hx : ∀ p, L x p = 0) (hy : ∀ p, L y p = 0) (e : ∀ i, i < d → x i = y i) : ∀ i, x i = y i := fun i => by
  induction i using Nat.strongRecOn with
  | _ i ih =>
    by_cases h : i < d
    · exact e i h
    · have q := (hL x y (i - d) fun j hj => ih _ (by omega)).mp (by rw [hx, hy])
      rwa [show i - d + d = i by omega] at q
/-- both steps at once -/
def both (n g b : Nat) (x : Sq) : Sq := dl n (sm g b x)
theorem mon_both {n g b : Nat} (hn : 0 < n) (hg : 0 < g) (hb : 0 < b) : Mon (both n g b) (n + (b - 1) * g) := by
  obtain ⟨c, rfl⟩ : ∃ c, b = c + 1 := ⟨b - 1, by omega⟩
  exact (mon_dl hn).comp (mon_sm hg c)
theorem both_left {n g b : Nat} {x : Sq} (h : ∀ p, dl n x p = 0) (p : Nat) : both n g b x p = 0 := by
  unfold both
  rw [← sm_dl]
  exact sm_zero g b h p
theorem both_right {g a b : Nat} {x : Sq} : both (a * g) g b x = sm g a (dl (b * g) x) := by
  unfold both
  rw [← tele g a, ← sm_dl, tele]
/-- periods -/
theorem period {n m : Nat} (hn : 0 < n) (hm : 0 < m) {x y : Sq} (hx : ∀ p, dl n x p = 0) (hy : ∀ p, dl m y p = 0) (e : ∀ i, i < n + m - Nat.gcd n m → x i = y i) : ∀ i, x i = y i := by
  have hg : 0 < Nat.gcd n m := Nat.gcd_pos_of_pos_left _ hn
  obtain ⟨a, ha⟩ := Nat.gcd_dvd_left n m
  obtain ⟨b, hb⟩ := Nat.gcd_dvd_right n m
  generalize Nat.gcd n m = g at *
  have hb0 : 0 < b := by
    rcases Nat.eq_zero_or_pos b with z | z
    · rw [z] at hb
      omega
    · exact z
  have e2 : (b - 1) * g + g = m := by
    rw [← Nat.succ_mul, Nat.mul_comm, hb]
    congr 1
    omega
  refine mon_all (mon_both hn hg hb0) (both_left hx) (fun p => ?_) fun i hi => e i (by omega)
  have := congrFun (both_right (g := g) (a := a) (b := b) (x := y)) p
  rw [Nat.mul_comm a g, ← ha, Nat.mul_comm b g, ← hb] at this
  rw [this]
  exact sm_zero g a hy p
/-- steps that are periods -/
theorem period2 {n m : Nat} (hn : 0 < n) (hm : 0 < m) {x y : Sq} (hx : ∀ p, dl n (dl n x) p = 0) (hy : ∀ p, dl m (dl m y) p = 0) (e : ∀ i, i < 2 * (n + m - Nat.gcd n m) → x i = y i) : ∀ i, x i = y i := by
  have hg : 0 < Nat.gcd n m := Nat.gcd_pos_of_pos_left _ hn
  obtain ⟨a, ha⟩ := Nat.gcd_dvd_left n m
  obtain ⟨b, hb⟩ := Nat.gcd_dvd_right n m
  generalize Nat.gcd n m = g at *
  have hb0 : 0 < b := by
    rcases Nat.eq_zero_or_pos b with z | z
    · rw [z] at hb
      omega
    · exact z
  have e2 : (b - 1) * g + g = m := by
    rw [← Nat.succ_mul, Nat.mul_comm, hb]
    congr 1
    omega
  have mb := mon_both (n := n) hn hg hb0
  refine mon_all (mb.comp mb) (fun p => ?_) (fun p => ?_) fun i hi => e i (by omega)
  · have q : both n g b (both n g b x) = sm g b (sm g b (dl n (dl n x))) := by
      unfold both
      rw [sm_dl g n b (sm g b x), sm_dl g n b (dl n x), sm_dl g n b x, sm_dl g n b (dl n (sm g b x)), sm_dl g n b (sm g b x)]
    rw [q]
    exact sm_zero g b (sm_zero g b hx) p
  · have r : ∀ z : Sq, both n g b z = sm g a (dl m z) := fun z => by
      have := both_right (g := g) (a := a) (b := b) (x := z)
      rwa [Nat.mul_comm a g, ← ha, Nat.mul_comm b g, ← hb] at this
    have q : both n g b (both n g b y) = sm g a (sm g a (dl m (dl m y))) := by
      rw [r, r, sm_dl, ← sm_dl, ← sm_dl]
    rw [q]
    exact sm_zero g a (sm_zero g a hy) p
/-! ### rows -/
theorem onP_next {T : List Ln} (h : T ≠ []) (q : Nat) : onP T (q + T.length) = (onP T q).on 1 := by
  have := onP_add h q 1
  rwa [Nat.mul_one] at this
theorem num_dl {T : List Ln} (h : T ≠ []) (b p : Nat) : dl T.length (dl T.length fun i => (onP T (b + i)).f) p = 0 := by
  unfold dl
  simp only
  rw [show b + (p + T.length + T.length) = b + p + T.length + T.length by omega, show b + (p + T.length) = b + p + T.length by omega, onP_next h, onP_next h]
  simp only [Ln.on]
  omega
theorem let_dl {T : List Ln} (h : T ≠ []) (x : PySem.Str) (b p : Nat) : dl T.length (fun i => if (onP T (b + i)).l = x then 1 else 0) p = 0 := by
  unfold dl
  simp only
  rw [show b + (p + T.length) = b + p + T.length by omega, onP_next h]
  exact Int.sub_self _
theorem alike {H H' : List Tt} {T T' : List Ln} (h : T ≠ []) (h' : T' ≠ []) {b : Nat} (hb : H.length ≤ b) (hb' : H'.length ≤ b) (e : ∀ p, p < b + 2 * (T.length + T'.length - Nat.gcd T.length T'.length) → stand H T p = stand H' T' p) : ∀ p, stand H T p = stand H' T' p := by
  have n0 := List.length_pos_iff.mpr h
  have n0' := List.length_pos_iff.mpr h'
  have gl : Nat.gcd T.length T'.length ≤ T.length := Nat.le_of_dvd n0 (Nat.gcd_dvd_left _ _)
  have st : ∀ i, i < 2 * (T.length + T'.length - Nat.gcd T.length T'.length) → (onP T (b - H.length + i)).tick = (onP T' (b - H'.length + i)).tick := fun i hi => by
    have q := e (b + i) (by omega)
    rw [show b + i = H.length + (b - H.length + i) by omega, stand_tail h] at q
    rw [show H.length + (b - H.length + i) = H'.length + (b - H'.length + i) by omega, stand_tail h'] at q
    exact Option.some.inj q
  have nums := period2 n0 n0' (num_dl h (b - H.length)) (num_dl h' (b - H'.length)) fun i hi => congrArg Prod.snd (st i hi)
  have lets := fun x => period n0 n0' (let_dl h x (b - H.length)) (let_dl h' x (b - H'.length)) fun i hi => by
    have := congrArg Prod.fst (st i (by omega))
    simp only [Ln.tick] at this
    simp only [this]
  intro p
  by_cases hp : p < b
  · exact e p (by omega)
  · obtain ⟨i, rfl⟩ : ∃ i, p = b + i := ⟨p - b, by omega⟩
    rw [show b + i = H.length + (b - H.length + i) by omega, stand_tail h]
    rw [show H.length + (b - H.length + i) = H'.length + (b - H'.length + i) by omega, stand_tail h']
    have q1 := nums i
    have q2 := lets (onP T (b - H.length + i)).l i
    simp only [if_pos rfl] at q2
    have q3 : (onP T' (b - H'.length + i)).l = (onP T (b - H.length + i)).l := by
      by_cases z : (onP T' (b - H'.length + i)).l = (onP T (b - H.length + i)).l
      · exact z
      · rw [if_neg z] at q2
        exact absurd q2 (by decide)
    unfold Ln.tick
    rw [q3, q1]
end Fm
/-! TkF: the least form of a row; data of tickets and lines compared. -/
namespace Fm
structure LeastOf (H : List Tt) (T : List Ln) (H' : List Tt) (T' : List Ln) : Prop where
  e : T = [] → H' = H ∧ T' = []
  n : T ≠ [] → Lst H' T' ∧ ∃ m t, 0 < t ∧ H = lgH H' T' m ∧ T = lgT T' m t
theorem stand_nil (H : List Tt) (p : Nat) : stand H [] p = H[p]? := by
  unfold stand
  split
  · rfl
  · have : H[p]? = none := List.getElem?_eq_none (by omega)
    rw [this]
    rfl
section
variable {H H' X X' : List Tt} {T T' Y Y' : List Ln}
theorem LeastOf.nil (a : LeastOf H T X Y) : Y = [] ↔ T = [] := by
  constructor
  · intro h
    by_cases hT : T = []
    · exact hT
    · exact absurd h (a.n hT).1.ne
  · intro h
    exact (a.e h).2
theorem LeastOf.stand (a : LeastOf H T X Y) (p : Nat) : Fm.stand H T p = Fm.stand X Y p := by
  by_cases hT : T = []
  · obtain ⟨rfl, rfl⟩ := a.e hT
    rw [hT]
  · obtain ⟨l, m, t, t0, rfl, rfl⟩ := a.n hT
    exact stand_lg l.ne t0 p
theorem LeastOf.one (a : LeastOf H T X Y) (b : LeastOf H' T' X' Y') (e : ∀ p, Fm.stand H T p = Fm.stand H' T' p) (hn : T = [] ↔ T' = []) : X = X' ∧ Y = Y' := by
  by_cases hT : T = []
  · have hT' := hn.mp hT
    obtain ⟨rfl, rfl⟩ := a.e hT
    obtain ⟨rfl, rfl⟩ := b.e hT'
    refine ⟨List.ext_getElem? fun p => ?_, rfl⟩
    have := e p
    rwa [hT, hT', stand_nil, stand_nil] at this
  · exact (a.n hT).1.one (b.n fun z => hT (hn.mpr z)).1 fun p => by rw [← a.stand, ← b.stand, e]
end
/-- how far it need be looked -/
def reachN (H : List Tt) (T : List Ln) (H' : List Tt) (T' : List Ln) : Nat := max H.length H'.length + (if T = [] ∨ T' = [] then 1 else 2 * (T.length + T'.length - Nat.gcd T.length T'.length))
end Fm
namespace Tk
open PySem Fm
theorem eqv_ll (a b : Ln) : PyData.eqv (lP a) (lP b) = decide (a = b) := by
  cases a
  cases b
  simp only [PyData.eqv, PyData.eqvAll, Bool.and_true]
  rw [Bool.eq_iff_iff]
  simp
theorem eqvs_map {α : Type} [DecidableEq α] {f : α → PyData} (h : ∀ a b, PyData.eqv (f a) (f b) = decide (a = b)) : ∀ l m : List α, PyData.eqvAll (l.map f) (m.map f) = decide (l = m)
  | [], [] => by simp [PyData.eqvAll]
  | [], _ :: _ => by simp [PyData.eqvAll]
  | _ :: _, [] => by simp [PyData.eqvAll]
  | a :: l, b :: m => by
    simp only [List.map_cons, PyData.eqvAll, h, eqvs_map h l m, List.cons.injEq]
    rw [Bool.eq_iff_iff]
    simp
theorem eqv_tts (H H' : List Tt) : PyData.eqv (.tuple (H.map tP)) (.tuple (H'.map tP)) = decide (H = H') := by
  simp only [PyData.eqv]
  exact eqvs_map eqv_tt H H'
theorem eqv_lls (H H' : List Ln) : PyData.eqv (.tuple (H.map lP)) (.tuple (H'.map lP)) = decide (H = H') := by
  simp only [PyData.eqv]
  exact eqvs_map eqv_ll H H'
theorem eqv_form (H H' : List Tt) (T T' : List Ln) : PyData.eqv (fP H T) (fP H' T') = decide (H = H' ∧ T = T') := by
  have e1 := eqv_tts H H'
  have e2 := eqv_lls T T'
  show PyData.eqv (.tuple [.tuple (H.map tP), .tuple (T.map lP)]) (.tuple [.tuple (H'.map tP), .tuple (T'.map lP)]) = _
  rw [PyData.eqv]
  simp only [PyData.eqvAll, e1, e2, Bool.and_true]
  rw [Bool.eq_iff_iff]
  simp
/-- a ticket, or none -/
def oD : Option Tt → D
  | none => .non
  | some t => tD t
def oP : Option Tt → PyData
  | none => .none
  | some t => tP t
/-! ### the first of so many -/
def findN (P : Nat → Bool) : Nat → Nat → Option Nat
  | _, 0 => none
  | k, n + 1 => if P k = true then some k else findN P (k + 1) n
theorem one_of {α : Type} (l : List α) (p : Nat) : (l.take (p + 1)).drop p = (l[p]?).toList := by
  refine List.ext_getElem? fun i => ?_
  rw [List.getElem?_drop, List.getElem?_take]
  cases i with
  | zero =>
    rw [Nat.add_zero, if_pos (by omega)]
    cases l[p]? <;> rfl
  | succ i =>
    rw [if_neg (by omega)]
    cases l[p]? <;> simp
theorem cut_one {α : Type} (l : List α) (p : Nat) : cutG l (some (p : Int)) (some ((p : Int) + 1)) = (l[p]?).toList := by
  rw [show (p : Int) + 1 = ((p + 1 : Nat) : Int) by omega, cut_mid, one_of]
/-- a number, or none -/
def oI : Option Nat → D
  | none => .non
  | some n => .int n
end Tk
namespace K16
open PySem Tk Fm
local macro_rules | `(tactic| simp! [$ls,*]) => `(tactic| simp [runP, runM, startE, startM, sSeq, seqK, sNil, sRet, sRetN, sExpr, sIf, sSet, setK, sAsg, sPar, parK, rsl, sAug, sFor, cTest, tAndF, tOrF, tNotF, tYesF, tChainF, chK, cAndV, cOrV, cNotV, cIfE, cBin, cUn, fin1, fin2, peek, cName, cC, cTup, cLst, aNil, aCons, cUse, use, bd, RV.out, RV.cell, cCall, callK, cCallM, callMK, cCallT, cCallK, pick, ownAt, own0, not0, retOf, gNm, gTp, gsCons, gsNil, gIx, iRg1, iRg2, iIt, iter1, cSl, oNone, oSome, fSl, fII, fII0, fAdd, fIAdd, fIx, fLen, fNeg, fAbs, fInt, fIsN, isNon, sTryM, handG, leave0, iEn, gTpL, fIsB, sRaiseF, cXf, iZs, cChainV, chV, sRaise, sTryAs, leaveX, noX, outX, cIsE, cDct0, fAll, fAny, blsOf, blOf, fTuple, cMeth, fAppend, cBot, sBot, fFld, cMe, cMake, makeK, putO, sFldSet, fIsC, fEqO, okR, tyName, $ls,*])
def Pot (d : D) : Prop := ∃ a b : Int, d = .lst [.int a, .int b] ∧ 0 ≤ a ∧ 0 ≤ b ∧ b < 2 ^ 32
theorem digit {d : D} {m : Int} (h : Pot d) (h0 : 0 < m) (h1 : m.natAbs < 2 ^ 2000) : ∃ r d', P_L_digit d [.int m] = some (.ok (.dat (.int r)) d') ∧ 0 ≤ r ∧ r < m ∧ Pot d' := by
  obtain ⟨a, b, rfl, ha, hb, hb2⟩ := h
  have hd : divOk a m = true := divOk_of h0 h1
  by_cases hp : 0 < a
  · refine ⟨a % m, .lst [.int (a / m), .int b], ?_, Int.emod_nonneg _ (by omega), Int.emod_lt_of_pos _ h0, a / m, b, rfl, Int.ediv_nonneg ha (by omega), hb, hb2⟩
    simp! [P_L_digit, g_L_digit, L2.atI, L2.ixN, hp, hd]
  · have m1 : mulOk b 39373 = true := mulOk_of (sm (m := 4294967296) hb (by omega)) (by decide +kernel)
    have b0 : 0 ≤ (b * 39373 + 12227) % 2147483629 := Int.emod_nonneg _ (by omega)
    have b1 : (b * 39373 + 12227) % 2147483629 < 2147483629 := Int.emod_lt_of_pos _ (by omega)
    generalize hB : (b * 39373 + 12227) % 2147483629 = B at *
    have m2 : mulOk B B = true := mulOk_of (sm (m := 4294967296) b0 (by omega)) (sm (m := 4294967296) b0 (by omega))
    have m3 : divOk (B * B % 2147483563) 13 = true := divOk_of (by omega) (by decide +kernel)
    refine ⟨B * B % 2147483563 / 13 % m, .lst [.int a, .int B], ?_, Int.emod_nonneg _ (by omega), Int.emod_lt_of_pos _ h0, a, B, rfl, ha, b0, by omega⟩
    simp! [P_L_digit, g_L_digit, L2.atI, L2.ixN, hp, m1, hB, m2, m3, h0]
def Ltr (x : Str) : Prop := ∃ c, x = ⟨#[c]⟩ ∧ c < 128
theorem Ltr.ok {x : Str} (h : Ltr x) : StrOk x := by
  obtain ⟨c, rfl, hc⟩ := h
  exact .ltr hc
theorem pot {ns : List Int} {k : Nat} (hk : k < 63) : ∃ d, P_L_pot [.scr ns, .int k] = some (.ok (.fresh d)) ∧ Pot d := by
  have hpw : powOk 10 18 = true := powOk_lit (by decide) (by decide) (by decide)
  have fin : ∀ c : Int, mulOk ((if c < 0 then -c else c) % 2147483629) 48271 = true := fun c => by
    have h0 := Int.emod_nonneg (if c < 0 then -c else c) (show (2147483629 : Int) ≠ 0 by decide)
    have h1 := Int.emod_lt_of_pos (if c < 0 then -c else c) (show (0 : Int) < 2147483629 by decide)
    exact mulOk_of (sm (m := 4294967296) h0 (by omega)) (by decide +kernel)
  have hk2 : mulOk 60013 (k : Int) = true := mulOk_of (by decide +kernel) (sm (m := 100) (by omega) (by omega))
  have ok : ∀ c : Int, Pot (.lst [.int (if (if c < 0 then -c else c) - 10 ^ 18 > 0 then (if c < 0 then -c else c) - 10 ^ 18 else 0), .int (((if c < 0 then -c else c) % 2147483629 * 48271 + 60013 * k + 29) % 2147483647)]) := fun c => by
    refine ⟨_, _, rfl, ?_, Int.emod_nonneg _ (by decide), ?_⟩
    · split <;> omega
    · have := Int.emod_lt_of_pos ((if c < 0 then -c else c) % 2147483629 * 48271 + 60013 * k + 29) (show (0 : Int) < 2147483647 by decide)
      omega
  by_cases h : k < ns.length
  · have hat : L2.atI ns (k : Int) = some ns[k] := L2.atI_nat (List.getElem?_eq_getElem h)
    refine ⟨_, ?_, ok ns[k]⟩
    simp! [P_L_pot, g_L_pot, h, hat, hpw, fin, hk2, szOk]
  · refine ⟨_, ?_, ok 0⟩
    have := fin 0
    simp at this
    simp! [P_L_pot, g_L_pot, h, hpw, hk2, szOk, this]

theorem far {d : D} (h : Pot d) : ∃ r d', P_L_far d [] = some (.ok (.dat (.int r)) d') ∧ 0 ≤ r ∧ r < 10 ^ 60 ∧ Pot d' := by
  have loop := for_run (g := ft_L_far_1) (b := fb_L_far_1) (fun k env => ∃ d' r c, env = [some (.own d'), some (.dat (.int r)), c] ∧ Pot d' ∧ 0 ≤ r ∧ r < (100000000 : Int) ^ k) (Tk.intsFrom 0 8) 0 [some (.own d), some (.dat (.int 0)), none] ?_ ⟨d, 0, none, rfl, h, by omega, by simp⟩
  · obtain ⟨e', h5, d', r, c, rfl, p, r0, r1⟩ := loop
    refine ⟨r % 10 ^ 60, d', ?_, Int.emod_nonneg _ (by decide), Int.emod_lt_of_pos _ (by decide), p⟩
    have hp : powOk 10 60 = true := powOk_lit (by decide) (by decide) (by decide)
    simp! [P_L_far, g_L_far, L2.atI, L2.ixN, small62, h5, hp]
  · rintro i dd env hd ⟨d', r, c, rfl, p, r0, r1⟩
    obtain ⟨r2, d2, e2, z0, z1, p2⟩ := digit (m := 100000000) p (by omega) (by decide +kernel)
    have hp : powOk 10 8 = true := powOk_lit (by decide) (by decide) (by decide)
    have hi : i < 8 := by
      have := (List.getElem?_eq_some_iff.mp hd).1
      simpa [Tk.intsFrom] using this
    have hr : r ≤ (100000000 : Int) ^ 8 := by
      have : (100000000 : Int) ^ (0 + i) < 100000000 ^ 8 := Int.pow_lt_pow_of_lt (by decide) (by omega)
      omega
    have hm : mulOk r 100000000 = true := mulOk_of (sm (m := 100000000 ^ 8) r0 (by simpa using hr)) (by decide +kernel)
    refine ⟨[some (.own d'), some (.dat (.int r)), some (.dat dd)], [some (.own d2), some (.dat (.int (r * 100000000 + r2))), some (.dat dd)], ?_, ?_, d2, _, _, rfl, p2, ?_, ?_⟩
    · simp [ft_L_far_1, gNm]
    · simp! [fb_L_far_1, L2.atI, L2.ixN, hp, hm, e2]
    · have := Int.mul_nonneg r0 (show (0 : Int) ≤ 100000000 by decide)
      omega
    · rw [show 0 + i + 1 = (0 + i) + 1 from rfl, Int.pow_succ]
      omega

/-! the program: kinds of things -/
theorem isName {d : D} (h : Pl d) : P_is_name [d] = some (.ok (.dat (.bl (nameB d)))) := by
  cases d <;> try (simp! [P_is_name, g_is_name, L2.atI, L2.ixN, isi_int_non, isi_int_bl, isi_int_int, isi_int_str, isi_int_tup, isi_int_lst, isi_int_dct, isi_bool_non, isi_bool_bl, isi_bool_int, isi_bool_str, isi_bool_tup, isi_bool_lst, isi_bool_dct, isi_str_non, isi_str_bl, isi_str_int, isi_str_str, isi_str_tup, isi_str_lst, isi_str_dct, isi_tuple_non, isi_tuple_bl, isi_tuple_int, isi_tuple_str, isi_tuple_tup, isi_tuple_lst, isi_tuple_dct, isi_list_non, isi_list_bl, isi_list_int, isi_list_str, isi_list_tup, isi_list_lst, isi_list_dct, nameB]; done)
  · rename_i x
    have hz : szOk x.length = true := decide_eq_true h
    have hc : lcK [1] ct_is_name_1 cc_is_name_1 ce_is_name_1 (Tk.signs x) [some (.dat (.str x)), none] = some (.ok (.fresh (.lst (x.cps.toList.map fun c => .bl (smallC c)))) [some (.dat (.str x)), none]) := by
      have c := lc_pure (vs := [1]) (g := ct_is_name_1) (t := cc_is_name_1) (f := ce_is_name_1) (e := [some (.dat (.str x)), none])
        (fun d => [some (.dat (.str x)), some (.dat d)]) (fun _ => true) (fun d => match d with
          | .str y => .bl (smallC (y.cps.toList.headD 0))
          | _ => .non) (Tk.signs x) (fun d hd => by
        obtain ⟨c, _, rfl⟩ := List.mem_map.mp hd
        refine ⟨by simp [ct_is_name_1, gNm, wipeE], rfl, by simp [cc_is_name_1, tYesF], fun _ => ?_, rfl⟩
        have e := in_abc c
        simp! [ce_is_name_1, e]) rfl (by simp only [Tk.signs, List.length_map]; exact h)
      rw [c, List.filter_eq_self.mpr fun _ _ => rfl]
      unfold Tk.signs
      rw [List.map_map]
      rfl
    by_cases h1 : 1 ≤ (x.length : Int)
    · have h1n : 1 ≤ x.length := by omega
      by_cases h2 : (x.length : Int) ≤ 8
      · have h2n : x.length ≤ 8 := by omega
        simp! [P_is_name, g_is_name, isi_int_non, isi_int_bl, isi_int_int, isi_int_str, isi_int_tup, isi_int_lst, isi_int_dct, isi_bool_non, isi_bool_bl, isi_bool_int, isi_bool_str, isi_bool_tup, isi_bool_lst, isi_bool_dct, isi_str_non, isi_str_bl, isi_str_int, isi_str_str, isi_str_tup, isi_str_lst, isi_str_dct, isi_tuple_non, isi_tuple_bl, isi_tuple_int, isi_tuple_str, isi_tuple_tup, isi_tuple_lst, isi_tuple_dct, isi_list_non, isi_list_bl, isi_list_int, isi_list_str, isi_list_tup, isi_list_lst, isi_list_dct, nameB, hz, h1, h2, h1n, h2n, cLc, hc, bls_map, Function.comp_def]
      · have h2n : ¬ x.length ≤ 8 := by omega
        simp! [P_is_name, g_is_name, L2.atI, L2.ixN, isi_int_non, isi_int_bl, isi_int_int, isi_int_str, isi_int_tup, isi_int_lst, isi_int_dct, isi_bool_non, isi_bool_bl, isi_bool_int, isi_bool_str, isi_bool_tup, isi_bool_lst, isi_bool_dct, isi_str_non, isi_str_bl, isi_str_int, isi_str_str, isi_str_tup, isi_str_lst, isi_str_dct, isi_tuple_non, isi_tuple_bl, isi_tuple_int, isi_tuple_str, isi_tuple_tup, isi_tuple_lst, isi_tuple_dct, isi_list_non, isi_list_bl, isi_list_int, isi_list_str, isi_list_tup, isi_list_lst, isi_list_dct, nameB, hz, h1, h2, h2n]
    · have h1n : ¬ 1 ≤ x.length := by omega
      simp! [P_is_name, g_is_name, L2.atI, L2.ixN, isi_int_non, isi_int_bl, isi_int_int, isi_int_str, isi_int_tup, isi_int_lst, isi_int_dct, isi_bool_non, isi_bool_bl, isi_bool_int, isi_bool_str, isi_bool_tup, isi_bool_lst, isi_bool_dct, isi_str_non, isi_str_bl, isi_str_int, isi_str_str, isi_str_tup, isi_str_lst, isi_str_dct, isi_tuple_non, isi_tuple_bl, isi_tuple_int, isi_tuple_str, isi_tuple_tup, isi_tuple_lst, isi_tuple_dct, isi_list_non, isi_list_bl, isi_list_int, isi_list_str, isi_list_tup, isi_list_lst, isi_list_dct, nameB, hz, h1, h1n]
  all_goals exact absurd h (by simp [Pl])
theorem isLetter {d : D} (h : Pl d) : P_is_letter [d] = some (.ok (.dat (.bl (letterB d)))) := by
  have e := isName h
  cases hn : nameB d with
  | false =>
    have hl : letterB d = false := by
      cases hb : letterB d with
      | false => rfl
      | true => rw [letter_name hb] at hn; cases hn
    rw [hn] at e
    simp! [P_is_letter, g_is_letter, L2.atI, L2.ixN, e, hl]
  | true =>
    rw [hn] at e
    cases d <;> simp only [nameB, Bool.false_eq_true] at hn
    rename_i x
    have hz : szOk x.length = true := decide_eq_true h
    simp only [Bool.and_eq_true, decide_eq_true_eq] at hn
    have hi : ((x.length : Int) = 1) ↔ x.length = 1 := by omega
    simp! [P_is_letter, g_is_letter, L2.atI, L2.ixN, e, letterB, hz, eqF_int, hn.2, hi]
theorem isWhole {d : D} (h : Pl d) : P_is_whole [d] = some (.ok (.dat (.bl (wholeB d)))) := by
  cases d <;> try (simp! [P_is_whole, g_is_whole, L2.atI, L2.ixN, isi_int_non, isi_int_bl, isi_int_int, isi_int_str, isi_int_tup, isi_int_lst, isi_int_dct, isi_bool_non, isi_bool_bl, isi_bool_int, isi_bool_str, isi_bool_tup, isi_bool_lst, isi_bool_dct, isi_str_non, isi_str_bl, isi_str_int, isi_str_str, isi_str_tup, isi_str_lst, isi_str_dct, isi_tuple_non, isi_tuple_bl, isi_tuple_int, isi_tuple_str, isi_tuple_tup, isi_tuple_lst, isi_tuple_dct, isi_list_non, isi_list_bl, isi_list_int, isi_list_str, isi_list_tup, isi_list_lst, isi_list_dct, wholeB]; done)
  all_goals exact absurd h (by simp [Pl])
theorem isTicket {d : D} (h : Pls d) : P_is_ticket [d] = some (.ok (.dat (.bl (ticketB d)))) := by
  cases d with
  | tup l =>
    match l, h with
    | [], _ => simp! [P_is_ticket, g_is_ticket, L2.atI, L2.ixN, isi_int_non, isi_int_bl, isi_int_int, isi_int_str, isi_int_tup, isi_int_lst, isi_int_dct, isi_bool_non, isi_bool_bl, isi_bool_int, isi_bool_str, isi_bool_tup, isi_bool_lst, isi_bool_dct, isi_str_non, isi_str_bl, isi_str_int, isi_str_str, isi_str_tup, isi_str_lst, isi_str_dct, isi_tuple_non, isi_tuple_bl, isi_tuple_int, isi_tuple_str, isi_tuple_tup, isi_tuple_lst, isi_tuple_dct, isi_list_non, isi_list_bl, isi_list_int, isi_list_str, isi_list_tup, isi_list_lst, isi_list_dct, ticketB, eqF_int]
    | [a], _ => simp! [P_is_ticket, g_is_ticket, L2.atI, L2.ixN, isi_int_non, isi_int_bl, isi_int_int, isi_int_str, isi_int_tup, isi_int_lst, isi_int_dct, isi_bool_non, isi_bool_bl, isi_bool_int, isi_bool_str, isi_bool_tup, isi_bool_lst, isi_bool_dct, isi_str_non, isi_str_bl, isi_str_int, isi_str_str, isi_str_tup, isi_str_lst, isi_str_dct, isi_tuple_non, isi_tuple_bl, isi_tuple_int, isi_tuple_str, isi_tuple_tup, isi_tuple_lst, isi_tuple_dct, isi_list_non, isi_list_bl, isi_list_int, isi_list_str, isi_list_tup, isi_list_lst, isi_list_dct, ticketB, eqF_int]
    | [a, b], h =>
      have e1 := isLetter (h a (by simp))
      have e2 := isWhole (h b (by simp))
      cases ha : letterB a <;> rw [ha] at e1 <;> simp! [P_is_ticket, g_is_ticket, L2.atI, L2.ixN, isi_int_non, isi_int_bl, isi_int_int, isi_int_str, isi_int_tup, isi_int_lst, isi_int_dct, isi_bool_non, isi_bool_bl, isi_bool_int, isi_bool_str, isi_bool_tup, isi_bool_lst, isi_bool_dct, isi_str_non, isi_str_bl, isi_str_int, isi_str_str, isi_str_tup, isi_str_lst, isi_str_dct, isi_tuple_non, isi_tuple_bl, isi_tuple_int, isi_tuple_str, isi_tuple_tup, isi_tuple_lst, isi_tuple_dct, isi_list_non, isi_list_bl, isi_list_int, isi_list_str, isi_list_tup, isi_list_lst, isi_list_dct, ticketB, eqF_int, e1, e2, ha]
    | a :: b :: c :: l, _ =>
      have : ¬ ((l.length : Int) + 1 + 1 + 1 = 2) := by omega
      simp! [P_is_ticket, g_is_ticket, L2.atI, L2.ixN, isi_int_non, isi_int_bl, isi_int_int, isi_int_str, isi_int_tup, isi_int_lst, isi_int_dct, isi_bool_non, isi_bool_bl, isi_bool_int, isi_bool_str, isi_bool_tup, isi_bool_lst, isi_bool_dct, isi_str_non, isi_str_bl, isi_str_int, isi_str_str, isi_str_tup, isi_str_lst, isi_str_dct, isi_tuple_non, isi_tuple_bl, isi_tuple_int, isi_tuple_str, isi_tuple_tup, isi_tuple_lst, isi_tuple_dct, isi_list_non, isi_list_bl, isi_list_int, isi_list_str, isi_list_tup, isi_list_lst, isi_list_dct, ticketB, eqF_int, this]
  | obj => exact absurd h (by simp [Pls, Pl])
  | fn => exact absurd h (by simp [Pls, Pl])
  | scr => exact absurd h (by simp [Pls, Pl])
  | _ => simp! [P_is_ticket, g_is_ticket, L2.atI, L2.ixN, isi_int_non, isi_int_bl, isi_int_int, isi_int_str, isi_int_tup, isi_int_lst, isi_int_dct, isi_bool_non, isi_bool_bl, isi_bool_int, isi_bool_str, isi_bool_tup, isi_bool_lst, isi_bool_dct, isi_str_non, isi_str_bl, isi_str_int, isi_str_str, isi_str_tup, isi_str_lst, isi_str_dct, isi_tuple_non, isi_tuple_bl, isi_tuple_int, isi_tuple_str, isi_tuple_tup, isi_tuple_lst, isi_tuple_dct, isi_list_non, isi_list_bl, isi_list_int, isi_list_str, isi_list_tup, isi_list_lst, isi_list_dct, ticketB]
theorem isLine {d : D} (h : Pls d) : P_is_line [d] = some (.ok (.dat (.bl (lineB d)))) := by
  cases d with
  | tup l =>
    match l, h with
    | [], _ => simp! [P_is_line, g_is_line, L2.atI, L2.ixN, isi_int_non, isi_int_bl, isi_int_int, isi_int_str, isi_int_tup, isi_int_lst, isi_int_dct, isi_bool_non, isi_bool_bl, isi_bool_int, isi_bool_str, isi_bool_tup, isi_bool_lst, isi_bool_dct, isi_str_non, isi_str_bl, isi_str_int, isi_str_str, isi_str_tup, isi_str_lst, isi_str_dct, isi_tuple_non, isi_tuple_bl, isi_tuple_int, isi_tuple_str, isi_tuple_tup, isi_tuple_lst, isi_tuple_dct, isi_list_non, isi_list_bl, isi_list_int, isi_list_str, isi_list_tup, isi_list_lst, isi_list_dct, lineB, eqF_int]
    | [a], _ => simp! [P_is_line, g_is_line, L2.atI, L2.ixN, isi_int_non, isi_int_bl, isi_int_int, isi_int_str, isi_int_tup, isi_int_lst, isi_int_dct, isi_bool_non, isi_bool_bl, isi_bool_int, isi_bool_str, isi_bool_tup, isi_bool_lst, isi_bool_dct, isi_str_non, isi_str_bl, isi_str_int, isi_str_str, isi_str_tup, isi_str_lst, isi_str_dct, isi_tuple_non, isi_tuple_bl, isi_tuple_int, isi_tuple_str, isi_tuple_tup, isi_tuple_lst, isi_tuple_dct, isi_list_non, isi_list_bl, isi_list_int, isi_list_str, isi_list_tup, isi_list_lst, isi_list_dct, lineB, eqF_int]
    | [a, b], _ => simp! [P_is_line, g_is_line, L2.atI, L2.ixN, isi_int_non, isi_int_bl, isi_int_int, isi_int_str, isi_int_tup, isi_int_lst, isi_int_dct, isi_bool_non, isi_bool_bl, isi_bool_int, isi_bool_str, isi_bool_tup, isi_bool_lst, isi_bool_dct, isi_str_non, isi_str_bl, isi_str_int, isi_str_str, isi_str_tup, isi_str_lst, isi_str_dct, isi_tuple_non, isi_tuple_bl, isi_tuple_int, isi_tuple_str, isi_tuple_tup, isi_tuple_lst, isi_tuple_dct, isi_list_non, isi_list_bl, isi_list_int, isi_list_str, isi_list_tup, isi_list_lst, isi_list_dct, lineB, eqF_int]
    | [a, b, c], h =>
      have e1 := isLetter (h a (by simp))
      have e2 := isWhole (h b (by simp))
      have e3 := isWhole (h c (by simp))
      cases ha : letterB a <;> rw [ha] at e1
      · simp! [P_is_line, g_is_line, L2.atI, L2.ixN, isi_int_non, isi_int_bl, isi_int_int, isi_int_str, isi_int_tup, isi_int_lst, isi_int_dct, isi_bool_non, isi_bool_bl, isi_bool_int, isi_bool_str, isi_bool_tup, isi_bool_lst, isi_bool_dct, isi_str_non, isi_str_bl, isi_str_int, isi_str_str, isi_str_tup, isi_str_lst, isi_str_dct, isi_tuple_non, isi_tuple_bl, isi_tuple_int, isi_tuple_str, isi_tuple_tup, isi_tuple_lst, isi_tuple_dct, isi_list_non, isi_list_bl, isi_list_int, isi_list_str, isi_list_tup, isi_list_lst, isi_list_dct, lineB, eqF_int, e1, e2, e3, ha]
      · cases hb : wholeB b <;> rw [hb] at e2
        · simp! [P_is_line, g_is_line, L2.atI, L2.ixN, isi_int_non, isi_int_bl, isi_int_int, isi_int_str, isi_int_tup, isi_int_lst, isi_int_dct, isi_bool_non, isi_bool_bl, isi_bool_int, isi_bool_str, isi_bool_tup, isi_bool_lst, isi_bool_dct, isi_str_non, isi_str_bl, isi_str_int, isi_str_str, isi_str_tup, isi_str_lst, isi_str_dct, isi_tuple_non, isi_tuple_bl, isi_tuple_int, isi_tuple_str, isi_tuple_tup, isi_tuple_lst, isi_tuple_dct, isi_list_non, isi_list_bl, isi_list_int, isi_list_str, isi_list_tup, isi_list_lst, isi_list_dct, lineB, eqF_int, e1, e2, e3, ha, hb]
        · cases hc : wholeB c <;> rw [hc] at e3
          · have : posB c = false := by
              cases c <;> simp_all [wholeB, posB]
              omega
            simp! [P_is_line, g_is_line, L2.atI, L2.ixN, isi_int_non, isi_int_bl, isi_int_int, isi_int_str, isi_int_tup, isi_int_lst, isi_int_dct, isi_bool_non, isi_bool_bl, isi_bool_int, isi_bool_str, isi_bool_tup, isi_bool_lst, isi_bool_dct, isi_str_non, isi_str_bl, isi_str_int, isi_str_str, isi_str_tup, isi_str_lst, isi_str_dct, isi_tuple_non, isi_tuple_bl, isi_tuple_int, isi_tuple_str, isi_tuple_tup, isi_tuple_lst, isi_tuple_dct, isi_list_non, isi_list_bl, isi_list_int, isi_list_str, isi_list_tup, isi_list_lst, isi_list_dct, lineB, eqF_int, e1, e2, e3, ha, hb, this]
          · cases c <;> simp only [wholeB, Bool.false_eq_true] at hc
            simp! [P_is_line, g_is_line, L2.atI, L2.ixN, isi_int_non, isi_int_bl, isi_int_int, isi_int_str, isi_int_tup, isi_int_lst, isi_int_dct, isi_bool_non, isi_bool_bl, isi_bool_int, isi_bool_str, isi_bool_tup, isi_bool_lst, isi_bool_dct, isi_str_non, isi_str_bl, isi_str_int, isi_str_str, isi_str_tup, isi_str_lst, isi_str_dct, isi_tuple_non, isi_tuple_bl, isi_tuple_int, isi_tuple_str, isi_tuple_tup, isi_tuple_lst, isi_tuple_dct, isi_list_non, isi_list_bl, isi_list_int, isi_list_str, isi_list_tup, isi_list_lst, isi_list_dct, lineB, eqF_int, e1, e2, e3, ha, hb, posB]
    | a :: b :: c :: z :: l, _ =>
      have : ¬ ((l.length : Int) + 1 + 1 + 1 + 1 = 3) := by omega
      simp! [P_is_line, g_is_line, L2.atI, L2.ixN, isi_int_non, isi_int_bl, isi_int_int, isi_int_str, isi_int_tup, isi_int_lst, isi_int_dct, isi_bool_non, isi_bool_bl, isi_bool_int, isi_bool_str, isi_bool_tup, isi_bool_lst, isi_bool_dct, isi_str_non, isi_str_bl, isi_str_int, isi_str_str, isi_str_tup, isi_str_lst, isi_str_dct, isi_tuple_non, isi_tuple_bl, isi_tuple_int, isi_tuple_str, isi_tuple_tup, isi_tuple_lst, isi_tuple_dct, isi_list_non, isi_list_bl, isi_list_int, isi_list_str, isi_list_tup, isi_list_lst, isi_list_dct, lineB, eqF_int, this]
  | obj => exact absurd h (by simp [Pls, Pl])
  | fn => exact absurd h (by simp [Pls, Pl])
  | scr => exact absurd h (by simp [Pls, Pl])
  | _ => simp! [P_is_line, g_is_line, L2.atI, L2.ixN, isi_int_non, isi_int_bl, isi_int_int, isi_int_str, isi_int_tup, isi_int_lst, isi_int_dct, isi_bool_non, isi_bool_bl, isi_bool_int, isi_bool_str, isi_bool_tup, isi_bool_lst, isi_bool_dct, isi_str_non, isi_str_bl, isi_str_int, isi_str_str, isi_str_tup, isi_str_lst, isi_str_dct, isi_tuple_non, isi_tuple_bl, isi_tuple_int, isi_tuple_str, isi_tuple_tup, isi_tuple_lst, isi_tuple_dct, isi_list_non, isi_list_bl, isi_list_int, isi_list_str, isi_list_tup, isi_list_lst, isi_list_dct, lineB]

/-! the program: forms -/
theorem areAll {j : Nat} {P : List D → Option RR} {b : D → Bool} (hj : Phis j = some P) (hP : ∀ d, Pls d → P [d] = some (.ok (.dat (.bl (b d))))) {d : D} (h : Plss d) : P_are_all [d, .fn j] = some (.ok (.dat (.bl (allB b d)))) := by
  cases d with
  | tup l =>
    by_cases hl : l.length ≤ 240
    · have hi : (l.length : Int) ≤ 240 := by omega
      have c := lc_map (vs := [2]) (g := ct_are_all_1) (t := cc_are_all_1) (f := ce_are_all_1) (e := [some (.dat (.tup l)), some (.dat (.fn j)), none]) (fun d => d)
        (fun d => [some (.dat (.tup l)), some (.dat (.fn j)), some (.dat d)]) (fun _ => true) (fun d => .bl (b d)) l (fun d hd => by
          refine ⟨by simp [ct_are_all_1, gNm, wipeE], rfl, by simp [cc_are_all_1, tYesF], fun _ => ?_, rfl⟩
          have e := hP d (h d hd)
          simp! [ce_are_all_1, cCallF, hj, e]) rfl (by omega)
      rw [filter_yes, List.map_id'] at c
      simp! [P_are_all, g_are_all, isi_int_non, isi_int_bl, isi_int_int, isi_int_str, isi_int_tup, isi_int_lst, isi_int_dct, isi_bool_non, isi_bool_bl, isi_bool_int, isi_bool_str, isi_bool_tup, isi_bool_lst, isi_bool_dct, isi_str_non, isi_str_bl, isi_str_int, isi_str_str, isi_str_tup, isi_str_lst, isi_str_dct, isi_tuple_non, isi_tuple_bl, isi_tuple_int, isi_tuple_str, isi_tuple_tup, isi_tuple_lst, isi_tuple_dct, isi_list_non, isi_list_bl, isi_list_int, isi_list_str, isi_list_tup, isi_list_lst, isi_list_dct, hi, hl, cLc, c, bls_map, allB, Function.comp_def]
    · have hi : ¬ (l.length : Int) ≤ 240 := by omega
      simp! [P_are_all, g_are_all, isi_int_non, isi_int_bl, isi_int_int, isi_int_str, isi_int_tup, isi_int_lst, isi_int_dct, isi_bool_non, isi_bool_bl, isi_bool_int, isi_bool_str, isi_bool_tup, isi_bool_lst, isi_bool_dct, isi_str_non, isi_str_bl, isi_str_int, isi_str_str, isi_str_tup, isi_str_lst, isi_str_dct, isi_tuple_non, isi_tuple_bl, isi_tuple_int, isi_tuple_str, isi_tuple_tup, isi_tuple_lst, isi_tuple_dct, isi_list_non, isi_list_bl, isi_list_int, isi_list_str, isi_list_tup, isi_list_lst, isi_list_dct, hi, hl, allB]
  | obj => exact absurd h (by simp [Plss, Pl])
  | fn => exact absurd h (by simp [Plss, Pl])
  | scr => exact absurd h (by simp [Plss, Pl])
  | _ => simp! [P_are_all, g_are_all, isi_int_non, isi_int_bl, isi_int_int, isi_int_str, isi_int_tup, isi_int_lst, isi_int_dct, isi_bool_non, isi_bool_bl, isi_bool_int, isi_bool_str, isi_bool_tup, isi_bool_lst, isi_bool_dct, isi_str_non, isi_str_bl, isi_str_int, isi_str_str, isi_str_tup, isi_str_lst, isi_str_dct, isi_tuple_non, isi_tuple_bl, isi_tuple_int, isi_tuple_str, isi_tuple_tup, isi_tuple_lst, isi_tuple_dct, isi_list_non, isi_list_bl, isi_list_int, isi_list_str, isi_list_tup, isi_list_lst, isi_list_dct, allB]
theorem divisor {a b : Int} (ha : 0 ≤ a) (hb : 0 ≤ b) (hb2 : b.natAbs < 2 ^ 2000) : P_divisor_of [.int a, .int b] = some (.ok (.dat (.int (Int.gcd a b)))) := by
  have loop := while_run (t := wt_divisor_of_1) (g := wb_divisor_of_1) (fun env => ∃ x y : Int, env = [some (.dat (.int x)), some (.dat (.int y))] ∧ 0 ≤ x ∧ 0 ≤ y ∧ Int.gcd x y = Int.gcd a b) (fun env => env = [some (.dat (.int (Int.gcd a b))), some (.dat (.int 0))])
    (fun env => match env with
      | [_, some (.dat (.int y))] => y.natAbs
      | _ => 0) ?_ fuelN [some (.dat (.int a)), some (.dat (.int b))] ⟨a, b, rfl, ha, hb, rfl⟩ (fuel_of hb2)
  · obtain ⟨e', h5, rfl⟩ := loop
    simp! [P_divisor_of, g_divisor_of, L2.atI, L2.ixN, h5]
  · rintro env ⟨x, y, rfl, x0, y0, hg⟩
    by_cases hy : 0 < y
    · refine .inr ⟨[some (.dat (.int y)), some (.dat (.int (x % y)))], ?_, ?_, ⟨y, x % y, rfl, y0, Int.emod_nonneg _ (by omega), ?_⟩, ?_⟩
      · simp! [wt_divisor_of_1, L2.atI, L2.ixN, hy]
      · simp! [wb_divisor_of_1, L2.atI, L2.ixN, hy]
      · rw [Int.emod_def, Int.gcd_sub_mul_left_right, Int.gcd_comm, hg]
      · have := Int.emod_lt_of_pos x hy
        have := Int.emod_nonneg x (show y ≠ 0 by omega)
        simp only
        omega
    · have hy0 : y = 0 := by omega
      subst hy0
      refine .inl ⟨by simp! [wt_divisor_of_1, L2.atI, L2.ixN], ?_⟩
      rw [Int.gcd_zero_right] at hg
      have : x = (Int.gcd a b : Int) := by rw [← hg]; omega
      rw [← this]
theorem doMeet {N : Nat} {a b : Ln} (ha : Lq N a) (hb : Lq N b) (hN : N ≤ 10 ^ 190) : P_do_meet [lD a, lD b] = some (.ok (.dat (.bl (meetB a b)))) := by
  have g0 := gcd_pos (q := b.s) ha.s0
  have dv := divisor (a := a.s) (b := b.s) (by have := ha.s0; omega) (by have := hb.s0; omega) (sm190 (by have := hb.s0; omega) hb.s1 hN)
  unfold meetB
  generalize (Int.gcd a.s b.s : Int) = c at *
  by_cases h : a.l = b.l
  · simp! [P_do_meet, g_do_meet, L2.atI, L2.ixN, eqF_strs, dv, g0, eqF_int, h]
  · simp! [P_do_meet, g_do_meet, L2.atI, L2.ixN, eqF_strs, h]
theorem isMet {N : Nat} {T : List Ln} (h : ∀ a ∈ T, Lq N a) (hN : N ≤ 10 ^ 190) (hl : T.length ≤ 1000000) {k : Nat} (hk : k < T.length) : P_is_met [.tup (T.map lD), .int k] = some (.ok (.dat (.bl (metB T k)))) := by
  have ha : L2.atI (T.map lD) (k : Int) = some (lD T[k]) := at_map_nat (List.getElem?_eq_getElem hk)
  have c := lc_map (vs := [2]) (g := ct_is_met_1) (t := cc_is_met_1) (f := ce_is_met_1) (e := [some (.dat (.tup (T.map lD))), some (.dat (.int k)), none]) lD
    (fun b => [some (.dat (.tup (T.map lD))), some (.dat (.int k)), some (.dat (lD b))]) (fun _ => true) (fun b => .bl (meetB b T[k])) (T.take k) (fun b hb => by
      refine ⟨by simp [ct_is_met_1, gNm, wipeE], rfl, by simp [cc_is_met_1, tYesF], fun _ => ?_, rfl⟩
      have e := doMeet (h b (List.mem_of_mem_take hb)) (h T[k] (List.getElem_mem hk)) hN
      simp! [ce_is_met_1, ha, e]) rfl (by simp; omega)
  rw [filter_yes] at c
  have hm : metB T k = (T.take k).any fun b => meetB b T[k] := by
    unfold metB
    rw [List.getElem?_eq_getElem hk]
  have hcut : cutG (T.map lD) none (some (k : Int)) = (T.take k).map lD := by rw [cut_to, List.map_take]
  generalize T.take k = S at *
  simp! [P_is_met, g_is_met, hcut, cLc, c, bls_map, hm, Function.comp_def]
theorem turnOf {N : Nat} {a : Ln} {t : Tt} (ha : Lq N a) (hN : N ≤ 10 ^ 190) : P_turn_of [lD a, tD t] = some (.ok (.dat (backD a t))) := by
  have d1 : divOk (t.2 - a.f) a.s = true := divOk_of ha.s0 (sm190 (by have := ha.s0; omega) ha.s1 hN)
  unfold backD tellsB
  by_cases hxy : t.1 = a.l
  · by_cases hl : t.2 < a.f
    · have hl' : ¬ a.f ≤ t.2 := by omega
      simp! [P_turn_of, g_turn_of, L2.atI, L2.ixN, eqF_strs, hxy, hl, hl']
    · have hl' : a.f ≤ t.2 := by omega
      by_cases hr : (t.2 - a.f) % a.s = 0
      · simp! [P_turn_of, g_turn_of, L2.atI, L2.ixN, eqF_strs, hxy, hl, hl', d1, eqF_int, hr]
      · simp! [P_turn_of, g_turn_of, L2.atI, L2.ixN, eqF_strs, hxy, hl, d1, eqF_int, hr]
  · simp! [P_turn_of, g_turn_of, L2.atI, L2.ixN, eqF_strs, hxy]
theorem back_is (a : Ln) (t : Tt) : isNon (backD a t) = !tellsB a t := by
  unfold backD
  cases tellsB a t <;> simp [isNon]
theorem tellsAny {N : Nat} {T : List Ln} (h : ∀ a ∈ T, Lq N a) (hN : N ≤ 10 ^ 190) (hl : T.length ≤ 1000000) (t : Tt) : P_tells [.tup (T.map lD), tD t] = some (.ok (.dat (.bl (T.any fun a => tellsB a t)))) := by
  have c := lc_map (vs := [2]) (g := ct_tells_1) (t := cc_tells_1) (f := ce_tells_1) (e := [some (.dat (.tup (T.map lD))), some (.dat (tD t)), none]) lD
    (fun b => [some (.dat (.tup (T.map lD))), some (.dat (tD t)), some (.dat (lD b))]) (fun _ => true) (fun b => .bl (tellsB b t)) T (fun b hb => by
      refine ⟨by simp [ct_tells_1, gNm, wipeE], rfl, by simp [cc_tells_1, tYesF], fun _ => ?_, rfl⟩
      have e := turnOf (t := t) (h b hb) hN
      have i := back_is b t
      unfold isNon at i
      simp! [ce_tells_1, e, i]) rfl hl
  rw [filter_yes] at c
  simp! [P_tells, g_tells, cLc, c, bls_map, Function.comp_def]
theorem tellsTwice {N : Nat} {H : List Tt} {T : List Ln} (hH : H.length < 300) (h : ∀ a ∈ T, Lq N a) (hN : N ≤ 10 ^ 190) (hl : T.length ≤ 1000000) : ∃ b, P_tells_twice [.tup (H.map tD), .tup (T.map lD)] = some (.ok (.dat (.bl b))) ∧ (b = false ↔ Ok H T) := by
  obtain ⟨m, s1, _, s3, s4⟩ := set_tt H hH
  have c1 := lc_map (vs := [2]) (g := ct_tells_twice_1) (t := cc_tells_twice_1) (f := ce_tells_twice_1) (e := [some (.dat (.tup (H.map tD))), some (.dat (.tup (T.map lD))), none, none]) tD
    (fun t => [some (.dat (.tup (H.map tD))), some (.dat (.tup (T.map lD))), some (.dat (tD t)), none]) (fun _ => true) (fun t => .bl (T.any fun a => tellsB a t)) H (fun t ht => by
      refine ⟨by simp [ct_tells_twice_1, gNm, wipeE], rfl, by simp [cc_tells_twice_1, tYesF], fun _ => ?_, rfl⟩
      have e := tellsAny h hN hl t
      simp! [ce_tells_twice_1, e]) rfl (by omega)
  rw [filter_yes] at c1
  have c2 := lc_map (vs := [3]) (g := ct_tells_twice_2) (t := cc_tells_twice_2) (f := ce_tells_twice_2) (e := [some (.dat (.tup (H.map tD))), some (.dat (.tup (T.map lD))), none, none]) (fun i : Nat => D.int (0 + (i : Int)))
    (fun k => [some (.dat (.tup (H.map tD))), some (.dat (.tup (T.map lD))), none, some (.dat (.int (0 + (k : Int))))]) (fun _ => true) (fun k => .bl (metB T k)) (List.range T.length) (fun k hk => by
      refine ⟨by simp [ct_tells_twice_2, gNm, wipeE], rfl, by simp [cc_tells_twice_2, tYesF], fun _ => ?_, rfl⟩
      have e := isMet h hN hl (List.mem_range.mp hk)
      simp! [ce_tells_twice_2, e]) rfl (by simpa using hl)
  rw [filter_yes, ← Tk.intsFrom] at c2
  have z : small62 (T.length : Int) = true := s62 hl
  have key : Ok H T ↔ (m = H.length ∧ (H.any fun t => T.any fun a => tellsB a t) = false ∧ (List.range T.length).any (metB T) = false) := by
    constructor
    · intro o
      refine ⟨s4.mpr o.nd, ?_, ?_⟩
      · simp only [List.any_eq_false, Bool.not_eq_true]
        intro t ht a ha
        cases hb : tellsB a t with
        | false => rfl
        | true => exact absurd (tellsB_iff.mp hb) (o.no t ht a ha)
      · simp only [List.any_eq_false, Bool.not_eq_true, List.mem_range]
        exact metB_iff.mpr o.ap
    · rintro ⟨h1, h2, h3⟩
      refine ⟨s4.mp h1, metB_iff.mp (by simpa using h3), fun t ht a ha z => ?_⟩
      simp only [List.any_eq_false, Bool.not_eq_true] at h2
      exact absurd (h2 t ht a ha) (by rw [tellsB_iff.mpr z]; simp)
  by_cases hm : m = H.length
  · have hm' : ¬ (m : Int) < H.length := by omega
    cases hb : H.any fun t => T.any fun a => tellsB a t with
    | true =>
      refine ⟨true, ?_, ⟨nofun, fun o => ?_⟩⟩
      · simp! [P_tells_twice, g_tells_twice, cLc, s1, hm, c1, bls_map, Function.comp_def, hb]
      · have := (key.mp o).2.1
        rw [hb] at this
        cases this
    | false =>
      refine ⟨(List.range T.length).any (metB T), ?_, ⟨fun z => key.mpr ⟨hm, hb, z⟩, fun o => (key.mp o).2.2⟩⟩
      simp! [P_tells_twice, g_tells_twice, cLc, s1, hm, c1, bls_map, Function.comp_def, hb, z, c2]
  · have hm' : (m : Int) < H.length := by omega
    refine ⟨true, ?_, ⟨nofun, fun o => absurd (key.mp o).1 hm⟩⟩
    simp! [P_tells_twice, g_tells_twice, s1, hm']

abbrev xNoPlace : Nat := 2
theorem faultForm {d : D} (h : Pl d) (h2 : ∀ l, d = .tup l → l.length ≠ 2) : P_fault_of [d] = some (.ok (.dat (.str "form"))) := by
  cases d with
  | tup l =>
    have : ¬ ((l.length : Int) = 2) := by have := h2 l rfl; omega
    simp! [P_fault_of, g_fault_of, isi_int_non, isi_int_bl, isi_int_int, isi_int_str, isi_int_tup, isi_int_lst, isi_int_dct, isi_bool_non, isi_bool_bl, isi_bool_int, isi_bool_str, isi_bool_tup, isi_bool_lst, isi_bool_dct, isi_str_non, isi_str_bl, isi_str_int, isi_str_str, isi_str_tup, isi_str_lst, isi_str_dct, isi_tuple_non, isi_tuple_bl, isi_tuple_int, isi_tuple_str, isi_tuple_tup, isi_tuple_lst, isi_tuple_dct, isi_list_non, isi_list_bl, isi_list_int, isi_list_str, isi_list_tup, isi_list_lst, isi_list_dct, eqF_int, this]
  | obj => exact absurd h (by simp [Pl])
  | fn => exact absurd h (by simp [Pl])
  | scr => exact absurd h (by simp [Pl])
  | _ => simp! [P_fault_of, g_fault_of, isi_int_non, isi_int_bl, isi_int_int, isi_int_str, isi_int_tup, isi_int_lst, isi_int_dct, isi_bool_non, isi_bool_bl, isi_bool_int, isi_bool_str, isi_bool_tup, isi_bool_lst, isi_bool_dct, isi_str_non, isi_str_bl, isi_str_int, isi_str_str, isi_str_tup, isi_str_lst, isi_str_dct, isi_tuple_non, isi_tuple_bl, isi_tuple_int, isi_tuple_str, isi_tuple_tup, isi_tuple_lst, isi_tuple_dct, isi_list_non, isi_list_bl, isi_list_int, isi_list_str, isi_list_tup, isi_list_lst, isi_list_dct]
theorem faultHead {a b : D} (ha : Plss a) (h : allB ticketB a = false) : P_fault_of [.tup [a, b]] = some (.ok (.dat (.str "head"))) := by
  have e := areAll (j := 0) rfl (fun d hd => isTicket hd) ha
  rw [h] at e
  simp! [P_fault_of, g_fault_of, isi_int_non, isi_int_bl, isi_int_int, isi_int_str, isi_int_tup, isi_int_lst, isi_int_dct, isi_bool_non, isi_bool_bl, isi_bool_int, isi_bool_str, isi_bool_tup, isi_bool_lst, isi_bool_dct, isi_str_non, isi_str_bl, isi_str_int, isi_str_str, isi_str_tup, isi_str_lst, isi_str_dct, isi_tuple_non, isi_tuple_bl, isi_tuple_int, isi_tuple_str, isi_tuple_tup, isi_tuple_lst, isi_tuple_dct, isi_list_non, isi_list_bl, isi_list_int, isi_list_str, isi_list_tup, isi_list_lst, isi_list_dct, eqF_int, e]
theorem faultTail {a b : D} (ha : Plss a) (hb : Plss b) (h : allB ticketB a = true) (h2 : allB lineB b = false) : P_fault_of [.tup [a, b]] = some (.ok (.dat (.str "tail"))) := by
  have e := areAll (j := 0) rfl (fun d hd => isTicket hd) ha
  have e2 := areAll (j := 1) rfl (fun d hd => isLine hd) hb
  rw [h] at e
  rw [h2] at e2
  simp! [P_fault_of, g_fault_of, isi_int_non, isi_int_bl, isi_int_int, isi_int_str, isi_int_tup, isi_int_lst, isi_int_dct, isi_bool_non, isi_bool_bl, isi_bool_int, isi_bool_str, isi_bool_tup, isi_bool_lst, isi_bool_dct, isi_str_non, isi_str_bl, isi_str_int, isi_str_str, isi_str_tup, isi_str_lst, isi_str_dct, isi_tuple_non, isi_tuple_bl, isi_tuple_int, isi_tuple_str, isi_tuple_tup, isi_tuple_lst, isi_tuple_dct, isi_list_non, isi_list_bl, isi_list_int, isi_list_str, isi_list_tup, isi_list_lst, isi_list_dct, eqF_int, e, e2]
theorem faultRest {N : Nat} {H : List Tt} {T : List Ln} (hH : ∀ t ∈ H, Tq N t) (hT : ∀ a ∈ T, Lq N a) (hN : N ≤ 10 ^ 190) (lH : H.length ≤ 240) (lT : T.length ≤ 240) : (Ok H T → P_fault_of [fD H T] = some (.ok (.dat .non))) ∧ (¬ Ok H T → P_fault_of [fD H T] = some (.ok (.dat (.str "twice")))) := by
  have e := areAll (j := 0) rfl (fun d hd => isTicket hd) (heads_pl hH)
  have e2 := areAll (j := 1) rfl (fun d hd => isLine hd) (tails_pl hT)
  rw [heads_is hH lH] at e
  rw [tails_is hT lT] at e2
  obtain ⟨b, e3, hb⟩ := tellsTwice (H := H) (by omega) hT hN (by omega)
  constructor
  · intro o
    rw [hb.mpr o] at e3
    simp! [P_fault_of, g_fault_of, isi_int_non, isi_int_bl, isi_int_int, isi_int_str, isi_int_tup, isi_int_lst, isi_int_dct, isi_bool_non, isi_bool_bl, isi_bool_int, isi_bool_str, isi_bool_tup, isi_bool_lst, isi_bool_dct, isi_str_non, isi_str_bl, isi_str_int, isi_str_str, isi_str_tup, isi_str_lst, isi_str_dct, isi_tuple_non, isi_tuple_bl, isi_tuple_int, isi_tuple_str, isi_tuple_tup, isi_tuple_lst, isi_tuple_dct, isi_list_non, isi_list_bl, isi_list_int, isi_list_str, isi_list_tup, isi_list_lst, isi_list_dct, eqF_int, e, e2, e3]
  · intro o
    have : b = true := by
      cases b with
      | true => rfl
      | false => exact absurd (hb.mp rfl) o
    rw [this] at e3
    simp! [P_fault_of, g_fault_of, isi_int_non, isi_int_bl, isi_int_int, isi_int_str, isi_int_tup, isi_int_lst, isi_int_dct, isi_bool_non, isi_bool_bl, isi_bool_int, isi_bool_str, isi_bool_tup, isi_bool_lst, isi_bool_dct, isi_str_non, isi_str_bl, isi_str_int, isi_str_str, isi_str_tup, isi_str_lst, isi_str_dct, isi_tuple_non, isi_tuple_bl, isi_tuple_int, isi_tuple_str, isi_tuple_tup, isi_tuple_lst, isi_tuple_dct, isi_list_non, isi_list_bl, isi_list_int, isi_list_str, isi_list_tup, isi_list_lst, isi_list_dct, eqF_int, e, e2, e3]
/-- a form: numbers below N -/
structure Form (N : Nat) (H : List Tt) (T : List Ln) : Prop where
  h : ∀ t ∈ H, Tq N t
  t : ∀ a ∈ T, Lq N a
  o : Ok H T
  lh : H.length ≤ 240
  lt : T.length ≤ 240
theorem wantOk {N : Nat} {H : List Tt} {T : List Ln} (F : Form N H T) (hN : N ≤ 10 ^ 190) : P_want_form [fD H T] = some (.ok (.dat .non)) := by
  have e := (faultRest F.h F.t hN F.lh F.lt).1 F.o
  simp! [P_want_form, g_want_form, e]
/-! places -/
theorem toldAt {N : Nat} {a : Ln} {k : Nat} (ha : Lq N a) (hN : N ≤ 10 ^ 190) (hk : k < 10 ^ 190) : P_told_at [lD a, .int k] = some (.ok (.dat (tD (a.at k)))) := by
  have w := isWhole (d := .int k) trivial
  simp only [wholeB, Int.natCast_nonneg, decide_true] at w
  have m : mulOk k a.s = true := mulOk_of (sm190 (N := 10 ^ 190) (by omega) (by omega) (Nat.le_refl _)) (sm190 (by have := ha.s0; omega) ha.s1 hN)
  have z2 : szOk 2 = true := rfl
  simp! [P_told_at, g_told_at, L2.atI, L2.ixN, w, m, z2, Ln.at]
theorem standing {N : Nat} {H : List Tt} {T : List Ln} (hT : ∀ a ∈ T, Lq N a) (hN : N ≤ 10 ^ 190) (lT : T.length ≤ 1000000) {p : Nat} (hp : p < 10 ^ 190) {t : Tt} (h : stand H T p = some t) : P_standing [fD H T, .int p] = some (.ok (.dat (tD t))) := by
  unfold stand at h
  split at h
  · rename_i hl
    have ha : L2.atI (H.map tD) (p : Int) = some (tD t) := at_map_nat h
    simp! [P_standing, g_standing, hl, ha]
  · rename_i hl
    cases ha : T[(p - H.length) % T.length]? with
    | none =>
      rw [ha] at h
      cases h
    | some a =>
      rw [ha] at h
      have h : a.at ((p - H.length) / T.length : Nat) = t := Option.some.inj h
      have hp0 : 0 < T.length := by
        have := (List.getElem?_eq_some_iff.mp ha).1
        omega
      have at' : L2.atI (T.map lD) (((p - H.length) % T.length : Nat) : Int) = some (lD a) := at_map_nat ha
      have told := toldAt (k := (p - H.length) / T.length) (hT a (List.mem_of_getElem? ha)) hN (Nat.lt_of_le_of_lt (Nat.div_le_self _ _) (by omega))
      rw [h] at told
      have e1 : (p : Int) - H.length = ((p - H.length : Nat) : Int) := by omega
      have e2 : ((p - H.length : Nat) : Int) / (T.length : Int) = (((p - H.length) / T.length : Nat) : Int) := (Int.natCast_ediv _ _).symm
      have e3 : ((p - H.length : Nat) : Int) % (T.length : Int) = (((p - H.length) % T.length : Nat) : Int) := (Int.natCast_emod _ _).symm
      have dv : ∀ i : Int, divOk i (T.length : Int) = true := fun i => divOk_of (by omega) (sm (m := 1000000) (by omega) (by omega))
      have hl' : ¬ (p : Int) < H.length := by omega
      generalize (((p - H.length) / T.length : Nat) : Int) = k1 at *
      generalize (((p - H.length) % T.length : Nat) : Int) = k2 at *
      generalize ((p - H.length : Nat) : Int) = k3 at *
      generalize (p : Int) = p1 at *
      simp! [P_standing, g_standing, hl', e1, e2, e3, dv, at', told]
theorem hasPlace {N : Nat} {H : List Tt} {T : List Ln} (hT : ∀ a ∈ T, Lq N a) (hN : N ≤ 10 ^ 190) {d : D} (h : Pl d) : P_has_place [fD H T, d] = some (.ok (.dat (.bl (wholeB d && (!T.isEmpty || belowB H.length d))))) := by
  have w := isWhole h
  have e := eq_nilT true hT hN
  cases hw : wholeB d with
  | false =>
    rw [hw] at w
    simp! [P_has_place, g_has_place, w]
  | true =>
    rw [hw] at w
    cases d <;> simp only [wholeB, Bool.false_eq_true] at hw
    rename_i i
    cases hT0 : T.isEmpty with
    | false =>
      rw [hT0] at e
      simp! [P_has_place, g_has_place, w, e, szOk]
    | true =>
      rw [hT0] at e
      simp! [P_has_place, g_has_place, w, e, szOk, belowB]
theorem ticketAt {N : Nat} {H : List Tt} {T : List Ln} (F : Form N H T) (hN : N ≤ 10 ^ 190) {p : Nat} (hp : p < 10 ^ 190) {t : Tt} (h : stand H T p = some t) : P_ticket_at [fD H T, .int p] = some (.ok (.dat (tD t))) := by
  have w := wantOk F hN
  have s := standing F.t hN (by have := F.lt; omega) hp h
  have q := hasPlace (H := H) (d := .int p) F.t hN trivial
  have yes : (wholeB (.int p) && (!T.isEmpty || belowB H.length (.int p))) = true := by
    simp only [wholeB, Int.natCast_nonneg, decide_true, Bool.true_and, Bool.or_eq_true, decide_eq_true_eq, Bool.not_eq_true']
    cases hT : T.isEmpty with
    | false => exact .inl rfl
    | true =>
      refine .inr ?_
      unfold stand at h
      split at h
      · rename_i hl
        simp only [belowB]
        exact decide_eq_true (by omega)
      · rw [List.isEmpty_iff.mp hT] at h
        cases h
  rw [yes] at q
  simp! [P_ticket_at, g_ticket_at, w, s, q]
theorem ticketNo {N : Nat} {H : List Tt} {T : List Ln} (F : Form N H T) (hN : N ≤ 10 ^ 190) {d : D} (hd : Pl d) (h : wholeB d = false ∨ (T = [] ∧ ∃ p : Nat, d = .int p ∧ H.length ≤ p)) : P_ticket_at [fD H T, d] = some (.ex ⟨xNoPlace, []⟩) := by
  have w := wantOk F hN
  have q := hasPlace (H := H) F.t hN hd
  have no : (wholeB d && (!T.isEmpty || belowB H.length d)) = false := by
    rcases h with h | ⟨rfl, p, rfl, h⟩
    · rw [h, Bool.false_and]
    · have : belowB H.length (.int p) = false := decide_eq_false (by omega)
      rw [this]
      simp
  rw [no] at q
  simp! [P_ticket_at, g_ticket_at, w, q, xNoPlace]

end K16
namespace K16
open PySem Tk Fm
local macro_rules | `(tactic| simp! [$ls,*]) => `(tactic| simp [runP, runM, startE, startM, sSeq, seqK, sNil, sRet, sRetN, sExpr, sIf, sSet, setK, sAsg, sPar, parK, rsl, sAug, sFor, cTest, tAndF, tOrF, tNotF, tYesF, tChainF, chK, cAndV, cOrV, cNotV, cIfE, cBin, cUn, fin1, fin2, peek, cName, cC, cTup, cLst, aNil, aCons, cUse, use, bd, RV.out, RV.cell, cCall, callK, cCallM, callMK, cCallT, cCallK, pick, ownAt, own0, not0, retOf, gNm, gTp, gsCons, gsNil, gIx, iRg1, iRg2, iIt, iter1, cSl, oNone, oSome, fSl, fII, fII0, fAdd, fIAdd, fIx, fLen, fNeg, fAbs, fInt, fIsN, isNon, sTryM, handG, leave0, iEn, gTpL, fIsB, sRaiseF, cXf, iZs, cChainV, chV, sRaise, sTryAs, leaveX, noX, outX, cIsE, cDct0, fAll, fAny, blsOf, blOf, fTuple, cMeth, fAppend, cBot, sBot, fFld, cMe, cMake, makeK, putO, sFldSet, fIsC, fEqO, okR, tyName, $ls,*])
/-! drawn forms -/
theorem mixed {d : D} (h : Pot d) {src : D} {l : List D} (hs : fListA src = some (.fresh (.lst l))) (hl : l.length ≤ 100000) : ∃ l' d', P_L_mixed d [src] = some (.ok (.fresh (.lst l')) d') ∧ l'.Perm l ∧ Pot d' := by
  obtain ⟨acc, e2, h1, d', left, rfl, pd, hp, hc⟩ := lc_run (vs := [3]) (g := ct_L_mixed_1) (t := cc_L_mixed_1) (f := ce_L_mixed_1)
    (fun i acc env => ∃ d' left, env = [some (.own d'), some (.dat src), some (.own (.lst left)), none] ∧ Pot d' ∧ (acc ++ left).Perm l ∧ left.length + i = l.length)
    (Tk.intsFrom 0 l.length) [some (.own d), some (.dat src), some (.own (.lst l)), none] ⟨d, l, rfl, h, by simp, by omega⟩ (by
      rintro i dd acc env hd ⟨d', left, rfl, pd, hp, hc⟩
      obtain ⟨hi, rfl⟩ := ints_get hd
      obtain ⟨r, d2, e, r0, r1, p2⟩ := digit (m := (left.length : Int)) pd (by omega) (sm (m := 100000) (by omega) (by omega))
      have hr : r.toNat < left.length := by omega
      have hix : L2.ixN left.length r = some r.toNat := by
        unfold L2.ixN
        rw [if_pos r0, if_pos r1]
      have hg : left[r.toNat]? = some left[r.toNat] := List.getElem?_eq_getElem hr
      have hz : small62 r = true := s62i (by omega) (by omega)
      refine ⟨[some (.own d'), some (.dat src), some (.own (.lst left)), some (.dat (.int i))], true, [some (.own d'), some (.dat src), some (.own (.lst left)), some (.dat (.int i))], by simp [ct_L_mixed_1, gNm], rfl, by simp [cc_L_mixed_1, tYesF], nofun, fun _ => ⟨left[r.toNat], [some (.own d2), some (.dat src), some (.own (.lst (left.eraseIdx r.toNat))), some (.dat (.int i))], ?_, d2, left.eraseIdx r.toNat, rfl, p2, ?_, ?_⟩⟩
      · simp! [ce_L_mixed_1, e, fPopAt, hz, hix, hg]
      · rw [List.append_assoc, List.singleton_append]
        exact (List.Perm.append_left acc (erase_perm hg)).trans hp
      · rw [List.length_eraseIdx_of_lt hr]
        omega) (by rw [ints_len]; omega) (by
      rintro acc env ⟨d', left, rfl, _⟩
      rfl)
  rw [ints_len] at hc
  have hleft : left = [] := List.eq_nil_of_length_eq_zero (by omega)
  subst hleft
  rw [List.append_nil] at hp
  have hz : small62 (l.length : Int) = true := s62 (by omega)
  refine ⟨acc, d', ?_, hp, pd⟩
  simp! [P_L_mixed, g_L_mixed, hs, cLc, hz, h1, unwipe]
theorem abc_list : fListA (.str (Str.ofString "abcdefghijklmnopqrstuvwxyz")) = some (.fresh (.lst ((List.range 26).map fun i => .str ⟨#[97 + i]⟩))) := by
  have h : szOk (Str.ofString "abcdefghijklmnopqrstuvwxyz").cps.size = true := by decide +kernel
  simp only [fListA, h, if_true, abc_cps, List.map_map]
  rfl
/-- a line as it is parted: its first below its step -/
structure Bq (m : Nat) (a : Ln) : Prop where
  l : Lz a.l
  f0 : 0 ≤ a.f
  f1 : a.f < a.s
  s1 : a.s ≤ m
theorem Bq.part {m : Nat} {a : Ln} (h : Bq m a) {n k : Int} {b : Nat} (k0 : 0 ≤ k) (k1 : k < n) (hn : n ≤ b) : Bq (m * b) (a.part n k) := by
  have f0 := h.f0
  have f1 := h.f1
  have s1 := h.s1
  have h1 : 0 ≤ k * a.s := Int.mul_nonneg k0 (by omega)
  have h2 : (k + 1) * a.s ≤ n * a.s := Int.mul_le_mul_of_nonneg_right (by omega) (by omega)
  have h3 : a.s * n ≤ (m : Int) * b := Int.mul_le_mul s1 hn (by omega) (by omega)
  rw [Int.add_mul] at h2
  rw [Int.mul_comm n a.s] at h2
  refine ⟨h.l, ?_, ?_, ?_⟩ <;> simp only [Ln.part]
  · omega
  · omega
  · rw [Int.natCast_mul]
    exact h3

theorem map_perm {α β : Type} {f : α → β} : ∀ {l : List α} {l' : List β}, l'.Perm (l.map f) → ∃ m : List α, l' = m.map f ∧ m.Perm l := fun {l l'} h => by
  generalize e : l.map f = k at h
  induction h generalizing l with
  | nil =>
    cases l with
    | nil => exact ⟨[], rfl, .refl _⟩
    | cons => cases e
  | cons x _ ih =>
    cases l with
    | nil => cases e
    | cons a l =>
      rw [List.map_cons, List.cons.injEq] at e
      obtain ⟨rfl, e⟩ := e
      obtain ⟨m, rfl, p⟩ := ih e
      exact ⟨a :: m, rfl, p.cons a⟩
  | swap x y k =>
    match l, e with
    | a :: b :: l, e =>
      rw [List.map_cons, List.map_cons, List.cons.injEq, List.cons.injEq] at e
      obtain ⟨rfl, rfl, rfl⟩ := e
      exact ⟨b :: a :: l, rfl, .swap a b l⟩
  | trans _ _ ih1 ih2 =>
    obtain ⟨m, e2, p⟩ := ih2 e
    obtain ⟨m2, e3, p2⟩ := ih1 e2.symm
    exact ⟨m2, e3, p2.trans p⟩

/-- some of the small letters, each once -/
theorem letters_of {l' : List D} (h : l'.Perm ((List.range 26).map fun i => D.str ⟨#[97 + i]⟩)) : ∃ L : List Str, l' = L.map D.str ∧ L.Nodup ∧ (∀ x ∈ L, Lz x) ∧ L.length = 26 := by
  have h2 : l'.Perm (((List.range 26).map fun i => (⟨#[97 + i]⟩ : Str)).map D.str) := by
    rw [List.map_map]
    exact h
  obtain ⟨L, rfl, p⟩ := map_perm h2
  refine ⟨L, rfl, p.symm.nodup ((nodup_map_iff fun a b e => ?_).mpr List.nodup_range), fun x hx => ?_, by simpa using p.length_eq⟩
  · simp at e
    exact e
  · obtain ⟨i, hi, rfl⟩ := List.mem_map.mp (p.mem_iff.mp hx)
    rw [List.mem_range] at hi
    exact ⟨97 + i, rfl, by omega, by omega⟩

theorem mapLD : ∀ (L : List Ln) (i : Nat), (L.map lD).eraseIdx i = (L.eraseIdx i).map lD
  | [], _ => rfl
  | _ :: _, 0 => rfl
  | a :: L, i + 1 => by
    rw [List.map_cons, List.eraseIdx_cons_succ, List.eraseIdx_cons_succ, List.map_cons, mapLD L i]
theorem lines {d : D} (h : Pot d) : ∃ (L : List Ln) (d' : D), P_L_lines d [] = some (.ok (.fresh (.lst (L.map lD))) d') ∧ L.Pairwise Fm.Apart ∧ (∀ a ∈ L, Bq 625 a) ∧ L.length ≤ 20 ∧ Pot d' := by
  obtain ⟨l1, d1, e1, p1, q1⟩ := mixed h abc_list (by simp)
  obtain ⟨M, rfl, nd, lz, len⟩ := letters_of p1
  obtain ⟨r2, d2, e2, r20, r21, q2⟩ := digit (m := 4) q1 (by omega) (by decide +kernel)
  obtain ⟨k2, rfl⟩ : ∃ k : Nat, r2 = k := ⟨r2.toNat, by omega⟩
  have cut2 : cutG (M.map D.str) none (some (1 + (k2 : Int))) = (M.take (1 + k2)).map D.str := by
    have := cut_to (M.map D.str) (1 + k2)
    rw [List.map_take, ← this]
    congr 2
  have lz2 : ∀ x ∈ M.take (1 + k2), Lz x := fun x hx => lz x (List.mem_of_mem_take hx)
  have nd2 : (M.take (1 + k2)).Nodup := nd.sublist (List.take_sublist _ _)
  have len2 : (M.take (1 + k2)).length ≤ 4 ∧ 0 < (M.take (1 + k2)).length := by
    rw [List.length_take]
    omega
  generalize M.take (1 + k2) = S at *
  have z3 : szOk 3 = true := rfl
  have c1 := lc_map (vs := [4]) (g := ct_L_lines_1) (t := cc_L_lines_1) (f := ce_L_lines_1) (e := [some (.own d2), some (.dat (.lst (S.map D.str))), none, none, none, none, none, none, none]) D.str
    (fun x => [some (.own d2), some (.dat (.lst (S.map D.str))), none, none, some (.dat (.str x)), none, none, none, none]) (fun _ => true) (fun x => lD ⟨x, 0, 1⟩) S (fun x hx => by
      refine ⟨by simp [ct_L_lines_1, gNm, wipeE], rfl, by simp [cc_L_lines_1, tYesF], fun _ => ?_, rfl⟩
      simp! [ce_L_lines_1, z3]) rfl (by omega)
  rw [filter_yes] at c1
  obtain ⟨r3, d3, e3, r30, r31, q3⟩ := digit (m := 5) q2 (by omega) (by decide +kernel)
  obtain ⟨k3, rfl⟩ : ∃ k : Nat, r3 = k := ⟨r3.toNat, by omega⟩
  have loop := for_run (g := ft_L_lines_1) (b := fb_L_lines_1) (fun k env => ∃ (d' : D) (L : List Ln) (c1 c3 c4 c5 c6 c7 c8 : Option Cell), env = [some (.own d'), c1, some (.own (.lst (L.map lD))), c3, c4, c5, c6, c7, c8] ∧ Pot d' ∧ L.Pairwise Fm.Apart ∧ (∀ a ∈ L, Bq (5 ^ k) a) ∧ L.length ≤ 4 + 4 * k ∧ 0 < L.length)
    (Tk.intsFrom 0 k3) 0 [some (.own d3), some (.dat (.lst (S.map D.str))), some (.own (.lst (S.map fun x => lD ⟨x, 0, 1⟩))), none, none, none, none, none, none] ?_ ⟨d3, S.map fun x => ⟨x, 0, 1⟩, _, _, _, _, _, _, _, by rw [List.map_map]; rfl, q3, ?_, ?_, by simp; omega, by simp; omega⟩
  · obtain ⟨env, h5, d4, L, c1', c3, c4, c5, c6, c7, c8, rfl, q4, ap, bq, ln, _⟩ := loop
    rw [ints_len, Nat.zero_add] at bq ln
    obtain ⟨l5, d5, e5, p5, q5⟩ := mixed (src := .lst (L.map lD)) q4 rfl (by simp; omega)
    obtain ⟨L2, rfl, pp⟩ := map_perm p5
    refine ⟨L2, d5, ?_, apart_perm ap pp.symm, fun a ha => ?_, by rw [pp.length_eq]; omega, q5⟩
    · have z : small62 (k3 : Int) = true := s62 (by omega)
      simp! [P_L_lines, g_L_lines, e1, e2, cut2, cLc, c1, e3, z, h5, e5]
    · have := bq a (pp.mem_iff.mp ha)
      refine ⟨this.l, this.f0, this.f1, ?_⟩
      have h1 := this.s1
      have h2 : (5 : Nat) ^ k3 ≤ 5 ^ 4 := Nat.pow_le_pow_right (by decide) (by omega)
      omega
  · rintro i dd env hd ⟨d', L, c1', c3, c4, c5, c6, c7, c8, rfl, pd, ap, bq, ln, pos⟩
    obtain ⟨hi, rfl⟩ := ints_get hd
    obtain ⟨r, d5, e5, r0, r1, p5⟩ := digit (m := (L.length : Int)) pd (by omega) (sm (m := 100000) (by omega) (by omega))
    obtain ⟨m, d6, e6, m0, m1, p6⟩ := digit (m := 4) p5 (by omega) (by decide +kernel)
    obtain ⟨k, rfl⟩ : ∃ k : Nat, r = k := ⟨r.toNat, by omega⟩
    obtain ⟨n, rfl⟩ : ∃ k : Nat, m = k := ⟨m.toNat, by omega⟩
    have hk : k < L.length := by omega
    have hg : L[k]? = some L[k] := List.getElem?_eq_getElem hk
    have ba := bq L[k] (List.getElem_mem hk)
    generalize L[k] = a at *
    have hg2 : (L.map lD)[k]? = some (lD a) := by rw [List.getElem?_map, hg]; rfl
    have hix : L2.ixN L.length (k : Int) = some k := by
      unfold L2.ixN
      rw [if_pos (by omega), if_pos (by omega), Int.toNat_natCast]
    have hz : small62 (k : Int) = true := s62 (by omega)
    have hz2 : small62 (2 + (n : Int)) = true := s62i (by omega) (by omega)
    have f0 := ba.f0
    have f1 := ba.f1
    have s1 : a.s ≤ 625 := by
      have := ba.s1
      have h2 : (5 : Nat) ^ (0 + i) ≤ 5 ^ 4 := Nat.pow_le_pow_right (by decide) (by omega)
      omega
    have c := lc_map (vs := [8]) (g := ct_L_lines_2) (t := cc_L_lines_2) (f := ce_L_lines_2) (e := [some (.own d6), c1', some (.own (.lst ((L.eraseIdx k).map lD))), some (.dat (.int i)), some (.dat (.str a.l)), some (.dat (.int a.f)), some (.dat (.int a.s)), some (.dat (.int (2 + (n : Int)))), c8]) (fun j : Nat => D.int (0 + (j : Int)))
      (fun j => [some (.own d6), c1', some (.own (.lst ((L.eraseIdx k).map lD))), some (.dat (.int i)), some (.dat (.str a.l)), some (.dat (.int a.f)), some (.dat (.int a.s)), some (.dat (.int (2 + (n : Int)))), some (.dat (.int (0 + (j : Int))))]) (fun _ => true) (fun j => lD (a.part (2 + n : Nat) j)) (List.range (2 + n)) (fun j hj => by
        refine ⟨by simp [ct_L_lines_2, gNm, wipeE], rfl, by simp [cc_L_lines_2, tYesF], fun _ => ?_, rfl⟩
        rw [List.mem_range] at hj
        have m1 : mulOk (j : Int) a.s = true := mulOk_of (sm (m := 100) (by omega) (by omega)) (sm (m := 1000) (by omega) (by omega))
        have m2 : mulOk a.s (2 + (n : Int)) = true := mulOk_of (sm (m := 1000) (by omega) (by omega)) (sm (m := 100) (by omega) (by omega))
        simp! [ce_L_lines_2, m1, m2, z3, Ln.part]) rfl (by simp; omega)
    rw [filter_yes, ← Tk.intsFrom] at c
    have hto : (2 + (n : Int)).toNat = 2 + n := by omega
    have szz : szOk (L.length - 1 + (2 + n)) = true := decide_eq_true (by omega)
    have lenE : (L.eraseIdx k).length = L.length - 1 := List.length_eraseIdx_of_lt hk
    refine ⟨[some (.own d'), c1', some (.own (.lst (L.map lD))), some (.dat (.int i)), c4, c5, c6, c7, c8], [some (.own d6), c1', some (.own (.lst ((L.eraseIdx k ++ (List.range (2 + n)).map fun j : Nat => a.part (2 + n : Nat) j).map lD))), some (.dat (.int i)), some (.dat (.str a.l)), some (.dat (.int a.f)), some (.dat (.int a.s)), some (.dat (.int (2 + (n : Int)))), c8], by simp [ft_L_lines_1, gNm], ?_, d6, L.eraseIdx k ++ (List.range (2 + n)).map fun j : Nat => a.part (2 + n : Nat) j, _, _, _, _, _, _, _, rfl, p6, split_apart ap hg (by omega), ?_, ?_, ?_⟩
    · simp! [fb_L_lines_1, e5, fPopAt, hz, hix, hg2, mapLD, e6, hz2, cLc, hto, c, lenE, szz]
    · intro b hb
      rcases List.mem_append.mp hb with hb | hb
      · have := bq b (List.mem_of_mem_eraseIdx hb)
        refine ⟨this.l, this.f0, this.f1, ?_⟩
        have h1 := this.s1
        have h2 : (5 : Nat) ^ (0 + i) ≤ 5 ^ (0 + i + 1) := Nat.pow_le_pow_right (by decide) (by omega)
        omega
      · obtain ⟨j, hj, rfl⟩ := List.mem_map.mp hb
        rw [List.mem_range] at hj
        rw [Nat.pow_succ]
        exact ba.part (by omega) (by omega) (by omega)
    · rw [List.length_append, List.length_map, List.length_range, lenE]
      omega
    · rw [List.length_append, List.length_map, List.length_range]
      omega
  · rw [List.pairwise_map]
    refine List.Pairwise.imp ?_ nd2
    intro x y hxy e
    exact absurd e hxy
  · intro a ha
    obtain ⟨x, hx, rfl⟩ := List.mem_map.mp ha
    exact ⟨lz2 x hx, by simp, by simp, by simp⟩

theorem early_nodup (l : Str) (f s : Int) (hs : 0 < s) (n : Nat) : ((List.range n).map fun k : Nat => ((l, f + (k : Int) * s) : Tt)).Nodup := (nodup_map_iff fun a b e => by
  rw [Prod.mk.injEq] at e
  have h : (a : Int) * s = b * s := by omega
  have := Int.eq_of_mul_eq_mul_right (Int.ne_of_gt hs) h
  omega).mpr List.nodup_range
theorem good {d : D} (h : Pot d) : ∃ (H : List Tt) (T : List Ln) (d' : D), P_L_good d [] = some (.ok (.dat (fD H T)) d') ∧ Form (10 ^ 60) H T ∧ Pot d' := by
  obtain ⟨L, d1, e1, ap, bq, ln, q1⟩ := lines h
  have z2 : szOk 2 = true := rfl
  have z3 : szOk 3 = true := rfl
  have loop := for_run (g := ft_L_good_1) (b := fb_L_good_1) (fun k env => ∃ (d' : D) (H : List Tt) (T : List Ln) (c3 c4 c5 c6 c7 c8 : Option Cell), env = [some (.own d'), some (.own (.lst (H.map tD))), some (.own (.lst (T.map lD))), c3, c4, c5, c6, c7, c8] ∧ Pot d' ∧ Grown H T (L.drop k) ∧ (∀ t ∈ H, Tq (10 ^ 60) t) ∧ (∀ a ∈ T, Lq (10 ^ 60) a) ∧ H.length ≤ 4 * k ∧ T.length ≤ k)
    (L.map lD) 0 [some (.own d1), some (.own (.lst [])), some (.own (.lst [])), none, none, none, none, none, none] ?_ ⟨d1, [], [], _, _, _, _, _, _, rfl, q1, Grown.start ap, by simp, by simp, by simp, by simp⟩
  · obtain ⟨env, h5, d4, H, T, c3, c4, c5, c6, c7, c8, rfl, q4, g, hH, hT, lH, lT⟩ := loop
    rw [List.length_map, Nat.zero_add] at g lH lT
    rw [List.drop_length] at g
    obtain ⟨l5, d5, e5, p5, q5⟩ := mixed (src := .lst (H.map tD)) q4 rfl (by simp; omega)
    obtain ⟨H2, rfl, pp⟩ := map_perm p5
    refine ⟨H2, T, d5, ?_, ⟨fun t ht => hH t (pp.mem_iff.mp ht), hT, g.ok.perm pp, by rw [pp.length_eq]; omega, by omega⟩, q5⟩
    simp! [P_L_good, g_L_good, e1, h5, e5, z2, szOk]
  · rintro i dd env hd ⟨d', H, T, c3, c4, c5, c6, c7, c8, rfl, pd, g, hH, hT, lH, lT⟩
    rw [List.getElem?_map] at hd
    rw [Nat.zero_add] at g lH lT
    have hi : i < L.length := by
      cases hz : L[i]? with
      | none =>
        rw [hz] at hd
        cases hd
      | some a => exact (List.getElem?_eq_some_iff.mp hz).1
    rw [List.getElem?_eq_getElem hi] at hd
    have hd : lD L[i] = dd := Option.some.inj hd
    subst hd
    rw [List.drop_eq_getElem_cons hi] at g
    have ba := bq L[i] (List.getElem_mem hi)
    generalize L[i] = a at *
    have f0 := ba.f0
    have f1 := ba.f1
    have s1 := ba.s1
    obtain ⟨r1, d2, e2, r10, r11, p2⟩ := digit (m := 4) pd (by omega) (by decide +kernel)
    obtain ⟨w, d3, e3, w0, w1, p3⟩ := far p2
    obtain ⟨r4, d4, e4, r40, r41, p4⟩ := digit (m := 6) p3 (by omega) (by decide +kernel)
    have hp5 : powOk 10 5 = true := powOk_lit (by decide) (by decide) (by decide)
    have dv5 : divOk w 100000 = true := divOk_of (by omega) (by decide +kernel)
    obtain ⟨u, hu, u0, u1⟩ : ∃ u : Int, L2.atI [D.int r1, D.int (w / 100000)] (if r4 = 5 then 1 else 0) = some (.int u) ∧ 0 ≤ u ∧ u < 10 ^ 55 := by
      by_cases h5 : r4 = 5
      · refine ⟨w / 100000, by rw [if_pos h5]; rfl, Int.ediv_nonneg w0 (by omega), ?_⟩
        rw [Int.ediv_lt_iff_lt_mul (by omega)]
        omega
      · exact ⟨r1, by rw [if_neg h5]; rfl, r10, by omega⟩
    obtain ⟨n, hn⟩ : ∃ n : Nat, (if (4 : Int) < u then 4 else u) = n := ⟨(if (4 : Int) < u then 4 else u).toNat, by split <;> omega⟩
    have n4 : n ≤ 4 ∧ (n : Int) ≤ u := by
      split at hn <;> omega
    have hz : small62 (n : Int) = true := s62 (by omega)
    have us0 : 0 ≤ u * a.s := Int.mul_nonneg u0 (by omega)
    have us1 : u * a.s ≤ 10 ^ 55 * 625 := Int.mul_le_mul (by omega) s1 (by omega) (by omega)
    have mu : mulOk u a.s = true := mulOk_of (sm (m := 10 ^ 60) u0 (by omega)) (sm (m := 10 ^ 60) (by omega) (by omega))
    have c := lc_map (vs := [8]) (g := ct_L_good_1) (t := cc_L_good_1) (f := ce_L_good_1) (e := [some (.own d4), some (.own (.lst (H.map tD))), some (.own (.lst (T.map lD))), some (.dat (.str a.l)), some (.dat (.int a.f)), some (.dat (.int a.s)), some (.dat (.int u)), c7, c8]) (fun j : Nat => D.int (0 + (j : Int)))
      (fun j => [some (.own d4), some (.own (.lst (H.map tD))), some (.own (.lst (T.map lD))), some (.dat (.str a.l)), some (.dat (.int a.f)), some (.dat (.int a.s)), some (.dat (.int u)), c7, some (.dat (.int (0 + (j : Int))))]) (fun _ => true) (fun j => tD (a.l, a.f + (j : Int) * a.s)) (List.range n) (fun j hj => by
        refine ⟨by simp [ct_L_good_1, gNm, wipeE], rfl, by simp [cc_L_good_1, tYesF], fun _ => ?_, rfl⟩
        rw [List.mem_range] at hj
        have m1 : mulOk (j : Int) a.s = true := mulOk_of (sm (m := 100) (by omega) (by omega)) (sm (m := 1000) (by omega) (by omega))
        simp! [ce_L_good_1, m1, z2]) rfl (by simp; omega)
    rw [filter_yes, ← Tk.intsFrom] at c
    have eE : (List.range n).map (fun j : Nat => tD (a.l, a.f + (j : Int) * a.s)) = ((List.range n).map fun j : Nat => ((a.l, a.f + (j : Int) * a.s) : Tt)).map tD := by rw [List.map_map]; rfl
    rw [eE] at c
    have eN := early_nodup a.l a.f a.s (by omega) n
    have eM : ∀ t ∈ (List.range n).map fun j : Nat => ((a.l, a.f + (j : Int) * a.s) : Tt), ∃ k : Int, t = (a.l, a.f + k * a.s) ∧ 0 ≤ k ∧ k < n := fun t ht => by
      obtain ⟨j, hj, rfl⟩ := List.mem_map.mp ht
      rw [List.mem_range] at hj
      exact ⟨j, rfl, by omega, by omega⟩
    have eL : ((List.range n).map fun j : Nat => ((a.l, a.f + (j : Int) * a.s) : Tt)).length = n := by simp
    generalize (List.range n).map (fun j : Nat => ((a.l, a.f + (j : Int) * a.s) : Tt)) = E at *
    obtain ⟨r6, d6, e6, r60, r61, p6⟩ := digit (m := (n : Int) + 1) p4 (by omega) (sm (m := 1000) (by omega) (by omega))
    obtain ⟨k, rfl⟩ : ∃ k : Nat, r6 = k := ⟨r6.toNat, by omega⟩
    obtain ⟨r7, d7, e7, r70, r71, p7⟩ := digit (m := 6) p6 (by omega) (by decide +kernel)
    have hcut : cutG (E.map tD) (some (k : Int)) none = (E.drop k).map tD := by rw [cut_from, List.map_drop]
    have szz : szOk (H.length + (E.drop k).length) = true := decide_eq_true (by rw [List.length_drop]; omega)
    have g2 := g.step (E := E.drop k) (u := u) (by omega) (eN.sublist (List.drop_sublist _ _)) (fun t ht => by
      obtain ⟨j, e, _, h2⟩ := eM t (List.mem_of_mem_drop ht)
      exact ⟨j, e, by omega⟩)
    have hE2 : ∀ t ∈ H ++ E.drop k, Tq (10 ^ 60) t := fun t ht => by
      rcases List.mem_append.mp ht with ht | ht
      · exact hH t ht
      · obtain ⟨j, rfl, j0, j1⟩ := eM t (List.mem_of_mem_drop ht)
        have h1 : 0 ≤ j * a.s := Int.mul_nonneg j0 (by omega)
        have h2 : j * a.s ≤ 4 * 625 := Int.mul_le_mul (by omega) s1 (by omega) (by omega)
        exact ⟨ba.l, by simp only; omega, by simp only; omega⟩
    have hlen : (H ++ E.drop k).length ≤ 4 * (i + 1) := by
      rw [List.length_append, List.length_drop]
      omega
    have hlen2 : (E.drop k).length ≤ 4 := by
      rw [List.length_drop]
      omega
    generalize hG : E.drop k = G at *
    by_cases h7 : 0 < r7
    · refine ⟨[some (.own d'), some (.own (.lst (H.map tD))), some (.own (.lst (T.map lD))), some (.dat (.str a.l)), some (.dat (.int a.f)), some (.dat (.int a.s)), c6, c7, c8], [some (.own d7), some (.own (.lst ((H ++ G).map tD))), some (.own (.lst ((T ++ [a.on u]).map lD))), some (.dat (.str a.l)), some (.dat (.int a.f)), some (.dat (.int a.s)), some (.dat (.int u)), some (.own (.lst (E.map tD))), c8], by simp! [ft_L_good_1], ?_, d7, H ++ G, T ++ [a.on u], _, _, _, _, _, _, rfl, p7, by simpa [Nat.add_comm] using g2 true, hE2, ?_, by omega, ?_⟩
      · have szT : szOk T.length = true := decide_eq_true (by omega)
        simp! [fb_L_good_1, z2, z3, e2, e3, hp5, dv5, e4, eqF_int, hu, hn, hz, cLc, c, eL, e6, hcut, szz, e7, h7, mu, szT, Ln.on]
      · intro b hb
        rcases List.mem_append.mp hb with hb | hb
        · exact hT b hb
        · rw [List.mem_singleton] at hb
          subst hb
          exact ⟨ba.l, by simp only [Ln.on]; omega, by simp only [Ln.on]; omega, by simp only [Ln.on]; omega, by simp only [Ln.on]; omega⟩
      · rw [List.length_append, List.length_singleton]
        omega
    · refine ⟨[some (.own d'), some (.own (.lst (H.map tD))), some (.own (.lst (T.map lD))), some (.dat (.str a.l)), some (.dat (.int a.f)), some (.dat (.int a.s)), c6, c7, c8], [some (.own d7), some (.own (.lst ((H ++ G).map tD))), some (.own (.lst (T.map lD))), some (.dat (.str a.l)), some (.dat (.int a.f)), some (.dat (.int a.s)), some (.dat (.int u)), some (.own (.lst (E.map tD))), c8], by simp! [ft_L_good_1], ?_, d7, H ++ G, T, _, _, _, _, _, _, rfl, p7, by simpa [Nat.add_comm] using g2 false, hE2, hT, by omega, by omega⟩
      simp! [fb_L_good_1, z2, z3, e2, e3, hp5, dv5, e4, eqF_int, hu, hn, hz, cLc, c, eL, e6, hcut, szz, e7, h7]

end K16
/-! Fm21: how often a sign stands in a text. -/
namespace Fm
open PySem PySem.Spec L2
def occS (x : Str) (c : Nat) (s : Array Nat × Nat) (i : Nat) : Array Nat × Nat := if ((s.1.size < x.length + 1 ∧ s.2 ≤ i) ∧ i + 1 ≤ x.length) ∧ Builtin.Str.subAt x ⟨#[c]⟩ i = true then (s.1.push i, i + 1) else s
end Fm
/-! Fm26: texts by their signs: split and partition at one sign, strip, figures. -/
namespace Fm
open PySem PySem.Spec L2 PySem.W PySem.W.KIN PySem.NumText PyProof.Rows
def tx (l : List Nat) : Str := ⟨l.toArray⟩
theorem tx_list (l : List Nat) : (tx l).cps.toList = l := rfl
theorem tx_len (l : List Nat) : (tx l).length = l.length := by simp [tx, Str.length]
theorem tx_eta (x : Str) : tx x.cps.toList = x := by
  obtain ⟨c⟩ := x
  simp [tx]
/-! the places of a sign -/
def occL (L : Nat) (x : Str) (c : Nat) (s : Array Nat × Nat) (i : Nat) : Array Nat × Nat := if (((s.1.size < L ∧ s.2 ≤ i) ∧ i + 1 ≤ x.length) ∧ Builtin.Str.subAt x ⟨#[c]⟩ i = true) then (s.1.push i, i + 1) else s
/-! split -/
def splitL (c : Nat) : List Nat → List (List Nat)
  | [] => [[]]
  | x :: l => if x = c then [] :: splitL c l else match splitL c l with
    | [] => [[x]]
    | p :: r => (x :: p) :: r
def joinL (c : Nat) : List (List Nat) → List Nat
  | [] => []
  | [x] => x
  | x :: y :: r => x ++ c :: joinL c (y :: r)
/-! figures -/
def digs (m : Nat) : List Nat := (Nat.toDigits 10 m).map Char.toNat
theorem num_tx {i : Int} (h : 0 ≤ i) : (Str.ofString (toString i)) = tx (digs i.toNat) := by
  obtain ⟨m, rfl⟩ := Int.eq_ofNat_of_zero_le h
  rw [← tx_eta (Str.ofString _), signs_num, Int.toNat_natCast]
  rfl
theorem digs_ok {m c : Nat} (h : c ∈ digs m) : 48 ≤ c ∧ c ≤ 57 := by
  obtain ⟨ch, hch, rfl⟩ := List.mem_map.mp h
  exact digit_range (Nat.isDigit_of_mem_toDigits (by decide) (by decide) hch)
theorem digs_ne (m : Nat) : digs m ≠ [] := fun e => by
  have h := toDigits_len_ge 10 m
  rw [List.map_eq_nil_iff.mp e] at h
  exact absurd h (by decide)
theorem digs_len {m k : Nat} (hk : 0 < k) (h : m < 10 ^ k) : (digs m).length ≤ k := by
  have := toString_length_le (v := (m : Int)) (by omega) hk (by exact_mod_cast h)
  rw [num_tx (by omega), tx_len, Int.toNat_natCast] at this
  exact this
theorem digs_read {m : Nat} (h : (digs m).length ≤ 640) : PySem.intText? (tx (digs m)) = some (m : Int) := by
  have e := intText_digits (x := tx (digs m)) (fun c hc => digs_ok hc) (digs_ne m) (by rw [tx_len]; omega)
  rw [e, tx_list]
  unfold digs
  rw [val_back]
end Fm
/-! Fm27: figures read back; runs of figures in a text, spoilt. -/
namespace Fm
open PySem PySem.W.KIN PySem.NumText PyProof.Rows
def figB (c : Nat) : Bool := decide (48 ≤ c) && decide (c ≤ 57)
def numL (w : List Nat) : Option Nat := if w ≠ [] ∧ w.all figB = true ∧ (w = [48] ∨ w.head? ≠ some 48) then some (digitsVal w) else none
/-! runs of figures -/
def nf (w : List Nat) : Nat := w.countP fun c => !figB c
theorem nf_app (a b : List Nat) : nf (a ++ b) = nf a + nf b := List.countP_append
/-- a part with at most k signs that are no figures has at most L signs -/
def Runs (k L : Nat) (s : List Nat) : Prop := ∀ u w v, s = u ++ w ++ v → nf w ≤ k → w.length ≤ L
theorem Runs.len {k L : Nat} {s : List Nat} (h : s.length ≤ L) : Runs k L s := fun u w v e _ => by
  have := congrArg List.length e
  simp only [List.length_append] at this
  omega
theorem Runs.sub {k L : Nat} {a s b : List Nat} (h : Runs k L (a ++ s ++ b)) : Runs k L s := fun u w v e hn => h (a ++ u) w (v ++ b) (by rw [e]; simp only [List.append_assoc]) hn
theorem Runs.le {k L M : Nat} {s : List Nat} (h : Runs k L s) (hm : L ≤ M) : Runs k M s := fun u w v e hn => Nat.le_trans (h u w v e hn) hm
theorem part_of {a w b s : List Nat} (e : s = a ++ w ++ b) : w = (s.drop a.length).take w.length := by
  rw [e, List.append_assoc, List.drop_left, List.take_left]
/-- a part of two texts with a sign or none between -/
theorem three {u m v a w b : List Nat} (hm : m.length ≤ 1) (e : u ++ m ++ v = a ++ w ++ b) : (∃ c, u = a ++ w ++ c) ∨ (∃ c, v = c ++ w ++ b) ∨ ∃ u1 v1 v2, u = a ++ u1 ∧ w = u1 ++ m ++ v1 ∧ v = v1 ++ v2 := by
  have hw := part_of e
  have le := congrArg List.length e
  simp only [List.length_append] at le
  by_cases h1 : a.length + w.length ≤ u.length
  · left
    refine ⟨u.drop (a.length + w.length), ?_⟩
    have ea : a = u.take a.length := by
      have : a = (u ++ m ++ v).take a.length := by rw [e, List.append_assoc, List.take_left]
      rw [List.append_assoc, List.take_append_of_le_length (by omega)] at this
      exact this
    have ew : w = (u.drop a.length).take w.length := by
      rw [List.append_assoc, List.drop_append_of_le_length (by omega), List.take_append_of_le_length (by rw [List.length_drop]; omega)] at hw
      exact hw
    have t1 := List.take_append_drop a.length u
    have t2 := List.take_append_drop w.length (u.drop a.length)
    rw [← ew, List.drop_drop] at t2
    rw [← ea, ← t2] at t1
    rw [List.append_assoc]
    exact t1.symm
  · by_cases h2 : u.length + m.length ≤ a.length
    · right
      left
      have ed : (u ++ m ++ v).drop (u.length + m.length) = v := by
        rw [← List.length_append]
        exact List.drop_left
      have ea : ∃ c, a = u ++ m ++ c := ⟨a.drop (u.length + m.length), by
        have : (u ++ m) = a.take (u.length + m.length) := by
          have k : (u ++ m ++ v).take (u.length + m.length) = u ++ m := by
            rw [← List.length_append]
            exact List.take_left
          rw [e, List.append_assoc, List.take_append_of_le_length (by omega)] at k
          exact k.symm
        rw [this, List.take_append_drop]⟩
      obtain ⟨c, rfl⟩ := ea
      refine ⟨c, ?_⟩
      exact List.append_cancel_left (as := u ++ m) (by rw [e]; simp only [List.append_assoc])
    · right
      right
      have hal : a.length ≤ u.length := by omega
      have ea : a = u.take a.length := by
        have : a = (u ++ m ++ v).take a.length := by rw [e, List.append_assoc, List.take_left]
        rw [List.append_assoc, List.take_append_of_le_length (by omega)] at this
        exact this
      have eu : u = a ++ u.drop a.length := by
        have := List.take_append_drop a.length u
        rw [← ea] at this
        exact this.symm
      generalize u.drop a.length = u1 at *
      subst eu
      have e : u1 ++ m ++ v = w ++ b := List.append_cancel_left (as := a) (by simpa only [List.append_assoc] using e)
      rw [List.length_append] at h1 h2 le
      have ew : w = (u1 ++ m) ++ w.drop (u1.length + m.length) := by
        have k : (u1 ++ m) = w.take (u1.length + m.length) := by
          have k : (u1 ++ m ++ v).take (u1.length + m.length) = u1 ++ m := by
            rw [← List.length_append]
            exact List.take_left
          rw [e, List.take_append_of_le_length (by omega)] at k
          exact k.symm
        rw [k, List.take_append_drop]
      generalize w.drop (u1.length + m.length) = v1 at *
      subst ew
      exact ⟨u1, v1, b, rfl, rfl, List.append_cancel_left (as := u1 ++ m) (by rw [e]; simp only [List.append_assoc])⟩
theorem Runs.sep {L c : Nat} {u v : List Nat} (hc : figB c = false) (h1 : Runs 0 L u) (h2 : Runs 0 L v) : Runs 0 L (u ++ c :: v) := fun a w b e hn => by
  rw [List.append_cons] at e
  rcases three (m := [c]) (by simp) e with ⟨d, rfl⟩ | ⟨d, rfl⟩ | ⟨u1, v1, v2, rfl, rfl, rfl⟩
  · exact h1 a w d rfl hn
  · exact h2 d w b rfl hn
  · rw [nf_app, nf_app] at hn
    have : nf [c] = 1 := by simp [nf, hc]
    omega
theorem Runs.up {L : Nat} {s : List Nat} (h : Runs 0 L s) : ∀ k, Runs k ((k + 1) * L + k) s
  | 0 => h.le (by omega)
  | k + 1 => fun u w v e hn => by
    have ih := Runs.up h k
    by_cases h0 : nf w ≤ k
    · have := ih u w v e h0
      rw [Nat.succ_mul]
      omega
    · have : ∃ c ∈ w, figB c = false := by
        have : 0 < nf w := by omega
        obtain ⟨c, hc, hf⟩ := List.countP_pos_iff.mp this
        exact ⟨c, hc, by simpa using hf⟩
      obtain ⟨c, hc, hf⟩ := this
      obtain ⟨p, q, rfl, hp⟩ : ∃ p q, w = p ++ q ∧ nf p = 0 ∧ ∃ d r, q = d :: r ∧ figB d = false := by
        clear e hn h0
        induction w with
        | nil => cases hc
        | cons d r ihw =>
          by_cases hd : figB d = false
          · exact ⟨[], d :: r, rfl, rfl, d, r, rfl, hd⟩
          · have hd : figB d = true := by simpa using hd
            rcases List.mem_cons.mp hc with z | z
            · rw [z, hd] at hf
              cases hf
            · obtain ⟨p, q, e1, e2, e3⟩ := ihw z
              exact ⟨d :: p, q, by rw [e1]; rfl, by simp [nf, hd]; simpa [nf] using e2, e3⟩
      obtain ⟨hp, d, r, rfl, hd⟩ := hp
      have l1 := h u p ((d :: r) ++ v) (by rw [e]; simp only [List.append_assoc]) (by omega)
      have n2 : nf (d :: r) = nf r + 1 := by simp [nf, hd]
      have l2 := ih (u ++ p ++ [d]) r v (by rw [e]; simp) (by rw [nf_app] at hn; omega)
      rw [List.length_append, List.length_cons]
      rw [Nat.succ_mul]
      omega
theorem Runs.join {L c : Nat} (hc : figB c = false) : ∀ {ws : List (List Nat)}, (∀ w ∈ ws, Runs 0 L w) → Runs 0 L (joinL c ws)
  | [], _ => .len (Nat.zero_le _)
  | [x], h => h x List.mem_cons_self
  | x :: y :: r, h => (h x List.mem_cons_self).sep hc (Runs.join hc fun w hw => h w (List.mem_cons_of_mem _ hw))
end Fm
/-! Fm28: repr tells plain data apart: what is shown is read in one way only. -/
namespace Fm
open PySem PySem.Spec PyProof.Rows Tk PySem.NumText
def alnum (c : Nat) : Bool := (decide (48 ≤ c) && decide (c ≤ 57)) || (decide (65 ≤ c) && decide (c ≤ 90)) || (decide (97 ≤ c) && decide (c ≤ 122))
mutual
def nc : PyData → Bool
  | .none => true
  | .bool _ => true
  | .int i => decide (i.natAbs < 10 ^ 190)
  | .str x => x.cps.toList.all alnum
  | .list xs => ncs xs
  | .tuple xs => ncs xs
  | .dict kvs => nck kvs
def ncs : List PyData → Bool
  | [] => true
  | x :: xs => nc x && ncs xs
def nck : List (PyData × PyData) → Bool
  | [] => true
  | (a, b) :: r => nc a && nc b && nck r
end
def intL (i : Int) : List Nat := if i < 0 then 45 :: digs i.natAbs else digs i.natAbs
mutual
def sh : PyData → List Nat
  | .none => [78, 111, 110, 101]
  | .bool b => if b then [84, 114, 117, 101] else [70, 97, 108, 115, 101]
  | .int i => intL i
  | .str x => 39 :: (x.cps.toList ++ [39])
  | .list xs => 91 :: (shs true xs ++ [93])
  | .tuple xs => 40 :: (shs true xs ++ (if xs.length = 1 then [44, 41] else [41]))
  | .dict kvs => 123 :: (shk true kvs ++ [125])
def shs : Bool → List PyData → List Nat
  | _, [] => []
  | f, x :: xs => (if f then [] else [44, 32]) ++ (sh x ++ shs false xs)
def shk : Bool → List (PyData × PyData) → List Nat
  | _, [] => []
  | f, (a, b) :: r => (if f then [] else [44, 32]) ++ (sh a ++ (58 :: 32 :: (sh b ++ shk false r)))
end
theorem app_l (a b : Str) : (a ++ b).cps.toList = a.cps.toList ++ b.cps.toList := by
  show (a.cps ++ b.cps).toList = _
  exact Array.toList_append
theorem sep_l : (Str.ofString ", ").cps.toList = [44, 32] := by decide +kernel
theorem join_l : ∀ (x : Str) (l : List Str), (Str.join ", " (x :: l)).cps.toList = x.cps.toList ++ l.flatMap fun y => 44 :: 32 :: y.cps.toList
  | x, [] => by simp [Str.join]
  | x, y :: l => by
    show (x ++ Str.ofString ", " ++ Str.join ", " (y :: l)).cps.toList = _
    rw [app_l, app_l, join_l y l, sep_l]
    simp
theorem alnum_repr0 : ((List.range 123).all fun c => !alnum c || (decide (Builtin.Str.reprChar 39 c = [c]) && decide (c ≠ 39))) = true := by decide +kernel
theorem alnum_repr {c : Nat} (h : alnum c = true) : Builtin.Str.reprChar 39 c = [c] ∧ c ≠ 39 := by
  have hc : c < 123 := by
    simp only [alnum, Bool.or_eq_true, Bool.and_eq_true, decide_eq_true_eq] at h
    omega
  have := List.all_eq_true.mp alnum_repr0 c (List.mem_range.mpr hc)
  rw [h] at this
  simpa using this
theorem fold_plain : ∀ (l : List Nat) (acc : Array Nat), (∀ c ∈ l, Builtin.Str.reprChar 39 c = [c]) → (l.foldl (fun out c => out ++ (Builtin.Str.reprChar 39 c).toArray) acc).toList = acc.toList ++ l
  | [], acc, _ => by simp
  | c :: l, acc, h => by
    rw [List.foldl_cons, fold_plain l _ fun d hd => h d (List.mem_cons_of_mem _ hd), h c List.mem_cons_self]
    simp
theorem reprText_l {x : Str} (h : x.cps.toList.all alnum = true) : (reprText x).cps.toList = 39 :: (x.cps.toList ++ [39]) := by
  have ha : ∀ c ∈ x.cps.toList, alnum c = true := List.all_eq_true.mp h
  have q : reprQuote x = 39 := by
    unfold reprQuote
    split
    · rename_i hb
      simp only [Bool.and_eq_true] at hb
      have : 39 ∈ x.cps.toList := by simpa using hb.1
      exact absurd rfl (alnum_repr (ha 39 this)).2
    · rfl
  unfold reprText
  rw [q, Array.toList_push, ← Array.foldl_toList, fold_plain _ _ fun c hc => (alnum_repr (ha c hc)).1]
  simp
theorem int_l (i : Int) : (Str.ofString (toString i)).cps.toList = intL i := by
  unfold intL
  by_cases h : i < 0
  · rw [if_pos h]
    obtain ⟨m, rfl⟩ : ∃ m : Nat, i = Int.negSucc m := by
      cases i with
      | ofNat m => exact absurd h (by simp)
      | negSucc m => exact ⟨m, rfl⟩
    have e : toString (Int.negSucc m) = "-" ++ toString ((m + 1 : Nat) : Int) := rfl
    have e2 : (Int.negSucc m).natAbs = m + 1 := rfl
    have ap : ∀ a b : String, Str.ofString (a ++ b) = Str.ofString a ++ Str.ofString b := fun a b => by
      rw [← tx_eta (Str.ofString (a ++ b)), ← tx_eta (Str.ofString a ++ Str.ofString b), app_l]
      rw [Str.ofString_eq_toList, Str.ofString_eq_toList, Str.ofString_eq_toList]
      simp [String.toList_append]
    rw [e, ap, app_l, num_tx (by omega), e2]
    have e3 : (Str.ofString "-").cps.toList = [45] := by decide +kernel
    rw [e3, Int.toNat_natCast]
    rfl
  · rw [if_neg h, num_tx (by omega)]
    have : i.toNat = i.natAbs := by omega
    rw [this]
    rfl
mutual
theorem shown_sh : ∀ p : PyData, nc p = true → p.shown.cps.toList = sh p
  | .none, _ => by rw [PyData.shown_none]; simp only [sh]; decide +kernel
  | .bool b, _ => by cases b <;> rw [PyData.shown_bool] <;> simp only [sh] <;> decide +kernel
  | .int i, _ => by rw [PyData.shown_int]; simp only [sh]; exact int_l i
  | .str x, h => by
    rw [PyData.shown_str]
    simp only [sh]
    exact reprText_l (by simpa only [nc] using h)
  | .list xs, h => by
    have e1 : (Str.ofString "[").cps.toList = [91] := by decide +kernel
    have e2 : (Str.ofString "]").cps.toList = [93] := by decide +kernel
    rw [PyData.shown_list, app_l, app_l, e1, e2, shownJ_sh xs (by simpa only [nc] using h)]
    simp only [sh]
    rfl
  | .tuple xs, h => by
    have e1 : (Str.ofString "(").cps.toList = [40] := by decide +kernel
    rw [PyData.shown_tuple, app_l, app_l, e1, shownJ_sh xs (by simpa only [nc] using h)]
    have e2 : (Str.ofString (if (xs.length == 1) = true then ",)" else ")" : String)).cps.toList = if xs.length = 1 then [44, 41] else [41] := by
      by_cases hl : xs.length = 1
      · simp only [hl]
        decide +kernel
      · have : (xs.length == 1) = false := by simpa using hl
        simp only [this, hl]
        decide +kernel
    rw [e2]
    simp only [sh]
    simp
  | .dict kvs, h => by
    have e1 : (Str.ofString "{").cps.toList = [123] := by decide +kernel
    have e2 : (Str.ofString "}").cps.toList = [125] := by decide +kernel
    rw [PyData.shown_dict, app_l, app_l, e1, e2, shownK_sh kvs (by simpa only [nc] using h)]
    simp only [sh]
    rfl
theorem shownJ_sh : ∀ xs : List PyData, ncs xs = true → (Str.join ", " (PyData.shownAll xs)).cps.toList = shs true xs
  | [], _ => by rw [PyData.shownAll_nil]; simp only [shs]; rfl
  | x :: xs, h => by
    simp only [ncs, Bool.and_eq_true] at h
    rw [PyData.shownAll_cons, join_l, shown_sh x h.1, shownF_sh xs h.2]
    simp only [shs]
    rfl
theorem shownF_sh : ∀ xs : List PyData, ncs xs = true → ((PyData.shownAll xs).flatMap fun y => 44 :: 32 :: y.cps.toList) = shs false xs
  | [], _ => by rw [PyData.shownAll_nil]; simp only [shs]; rfl
  | x :: xs, h => by
    simp only [ncs, Bool.and_eq_true] at h
    rw [PyData.shownAll_cons, List.flatMap_cons, shown_sh x h.1, shownF_sh xs h.2]
    simp only [shs]
    rfl
theorem shownK_sh : ∀ xs : List (PyData × PyData), nck xs = true → (Str.join ", " (PyData.shownKv xs)).cps.toList = shk true xs
  | [], _ => by rw [PyData.shownKv_nil]; simp only [shk]; rfl
  | (a, b) :: xs, h => by
    simp only [nck, Bool.and_eq_true] at h
    have e1 : (Str.ofString ": ").cps.toList = [58, 32] := by decide +kernel
    rw [PyData.shownKv_cons, join_l, app_l, app_l, e1, shown_sh a h.1.1, shown_sh b h.1.2, shownG_sh xs h.2]
    simp only [shk]
    simp
theorem shownG_sh : ∀ xs : List (PyData × PyData), nck xs = true → ((PyData.shownKv xs).flatMap fun y => 44 :: 32 :: y.cps.toList) = shk false xs
  | [], _ => by rw [PyData.shownKv_nil]; simp only [shk]; rfl
  | (a, b) :: xs, h => by
    simp only [nck, Bool.and_eq_true] at h
    have e1 : (Str.ofString ": ").cps.toList = [58, 32] := by decide +kernel
    rw [PyData.shownKv_cons, List.flatMap_cons, app_l, app_l, e1, shown_sh a h.1.1, shown_sh b h.1.2, shownG_sh xs h.2]
    simp only [shk]
    simp
end
/-! read in one way -/
def Ed (s : List Nat) : Prop := ∀ c r, s = c :: r → ¬ (48 ≤ c ∧ c ≤ 57)
theorem ed {c : Nat} {s : List Nat} (h : ¬ (48 ≤ c ∧ c ≤ 57)) : Ed (c :: s) := fun d r e => by
  cases e
  exact h
theorem digs_take {m : Nat} {s : List Nat} (hs : Ed s) : (digs m ++ s).takeWhile figB = digs m := by
  rw [List.takeWhile_append_of_pos fun c hc => by
    have := digs_ok hc
    simp [figB, this.1, this.2]]
  cases s with
  | nil => simp
  | cons c r =>
    have := hs c r rfl
    have : figB c = false := by
      simp only [figB, Bool.and_eq_false_iff, decide_eq_false_iff_not]
      omega
    simp [this]
theorem digs_pre {m n : Nat} {s t : List Nat} (hm : m < 10 ^ 190) (hn : n < 10 ^ 190) (hs : Ed s) (ht : Ed t) (h : digs m ++ s = digs n ++ t) : m = n ∧ s = t := by
  have e : digs m = digs n := by rw [← digs_take (m := m) hs, h, digs_take ht]
  have r1 := digs_read (m := m) (by have := digs_len (m := m) (k := 190) (by omega) hm; omega)
  have r2 := digs_read (m := n) (by have := digs_len (m := n) (k := 190) (by omega) hn; omega)
  rw [e, r2] at r1
  have : m = n := by
    have := Option.some.inj r1
    omega
  subst this
  exact ⟨rfl, List.append_cancel_left h⟩
theorem digs_cons (m : Nat) : ∃ c r, digs m = c :: r ∧ 48 ≤ c ∧ c ≤ 57 := by
  cases h : digs m with
  | nil => exact absurd h (digs_ne m)
  | cons c r => exact ⟨c, r, rfl, digs_ok (m := m) (by rw [h]; exact List.mem_cons_self)⟩
theorem intL_head (i : Int) : ∃ c r, intL i = c :: r ∧ (c = 45 ∨ (48 ≤ c ∧ c ≤ 57)) := by
  unfold intL
  split
  · exact ⟨_, _, rfl, .inl rfl⟩
  · obtain ⟨c, r, e, h⟩ := digs_cons i.natAbs
    exact ⟨c, r, e, .inr h⟩
theorem intL_pre {i j : Int} {s t : List Nat} (hi : i.natAbs < 10 ^ 190) (hj : j.natAbs < 10 ^ 190) (hs : Ed s) (ht : Ed t) (h : intL i ++ s = intL j ++ t) : i = j ∧ s = t := by
  obtain ⟨c1, r1, e1, h1⟩ := digs_cons i.natAbs
  obtain ⟨c2, r2, e2, h2⟩ := digs_cons j.natAbs
  unfold intL at h
  split at h <;> split at h
  · simp only [List.cons_append, List.cons.injEq, true_and] at h
    obtain ⟨a, b⟩ := digs_pre hi hj hs ht h
    exact ⟨by omega, b⟩
  · rw [e2] at h
    simp only [List.cons_append, List.cons.injEq] at h
    omega
  · rw [e1] at h
    simp only [List.cons_append, List.cons.injEq] at h
    omega
  · obtain ⟨a, b⟩ := digs_pre hi hj hs ht h
    exact ⟨by omega, b⟩
theorem sh_head : ∀ p : PyData, ∃ c r, sh p = c :: r ∧ c ≠ 41 ∧ c ≠ 93 ∧ c ≠ 125
  | .none => ⟨_, _, by simp only [sh]; rfl, by decide, by decide, by decide⟩
  | .bool true => ⟨84, [114, 117, 101], by simp [sh], by decide, by decide, by decide⟩
  | .bool false => ⟨70, [97, 108, 115, 101], by simp [sh], by decide, by decide, by decide⟩
  | .int i => by
    obtain ⟨c, r, e, h⟩ := intL_head i
    exact ⟨c, r, by simp only [sh]; exact e, by omega, by omega, by omega⟩
  | .str x => ⟨_, _, by simp only [sh]; rfl, by decide, by decide, by decide⟩
  | .list x => ⟨_, _, by simp only [sh]; rfl, by decide, by decide, by decide⟩
  | .tuple x => ⟨_, _, by simp only [sh]; rfl, by decide, by decide, by decide⟩
  | .dict x => ⟨_, _, by simp only [sh]; rfl, by decide, by decide, by decide⟩
theorem str_pre : ∀ {a b s t : List Nat}, 39 ∉ a → 39 ∉ b → a ++ 39 :: s = b ++ 39 :: t → a = b ∧ s = t
  | [], [], _, _, _, _, h => ⟨rfl, by simpa using h⟩
  | [], c :: b, _, _, _, hb, h => by
    simp only [List.nil_append, List.cons_append, List.cons.injEq] at h
    exact absurd (by rw [← h.1]; exact List.mem_cons_self) hb
  | c :: a, [], _, _, ha, _, h => by
    simp only [List.nil_append, List.cons_append, List.cons.injEq] at h
    exact absurd (by rw [h.1]; exact List.mem_cons_self) ha
  | c :: a, d :: b, _, _, ha, hb, h => by
    simp only [List.cons_append, List.cons.injEq] at h
    obtain ⟨e1, e2⟩ := str_pre (fun z => ha (List.mem_cons_of_mem _ z)) (fun z => hb (List.mem_cons_of_mem _ z)) h.2
    exact ⟨by rw [h.1, e1], e2⟩
theorem shs_ed {c : Nat} {s : List Nat} : ∀ xs : List PyData, ¬ (48 ≤ c ∧ c ≤ 57) → Ed (shs false xs ++ c :: s)
  | [], h => by simpa [shs] using ed h
  | x :: xs, _ => by
    simp only [shs]
    exact ed (by omega)
theorem shk_ed {c : Nat} {s : List Nat} : ∀ xs : List (PyData × PyData), ¬ (48 ≤ c ∧ c ≤ 57) → Ed (shk false xs ++ c :: s)
  | [], h => by simpa [shk] using ed h
  | (a, b) :: xs, _ => by
    simp only [shk]
    exact ed (by omega)
mutual
theorem pre : ∀ (p q : PyData) (s t : List Nat), nc p = true → nc q = true → Ed s → Ed t → sh p ++ s = sh q ++ t → p = q ∧ s = t
  | .none, q, s, t, _, _, _, _, h => by
    cases q with
    | none => exact ⟨rfl, by simpa [sh] using h⟩
    | int j =>
      obtain ⟨c, r, e, hc⟩ := intL_head j
      simp only [sh, e, List.cons_append, List.cons.injEq] at h
      omega
    | bool b => cases b <;> simp [sh] at h
    | _ => simp [sh] at h
  | .bool a, q, s, t, _, _, _, _, h => by
    cases q with
    | int j =>
      obtain ⟨c, r, e, hc⟩ := intL_head j
      cases a <;> simp [sh, e] at h <;> omega
    | bool b => cases a <;> cases b <;> simp [sh] at h <;> exact ⟨rfl, h⟩
    | _ => cases a <;> simp [sh] at h
  | .int i, q, s, t, hp, hq, hs, ht, h => by
    obtain ⟨c, r, e, hc⟩ := intL_head i
    cases q with
    | int j =>
      simp only [nc, decide_eq_true_eq] at hp hq
      simp only [sh] at h
      obtain ⟨a, b⟩ := intL_pre hp hq hs ht h
      exact ⟨by rw [a], b⟩
    | bool b => cases b <;> simp [sh, e] at h <;> omega
    | _ =>
      simp [sh, e] at h
      omega
  | .str x, q, s, t, hp, hq, _, _, h => by
    cases q with
    | str y =>
      simp only [nc] at hp hq
      simp only [sh, List.cons_append, List.append_assoc, List.nil_append, List.cons.injEq, true_and] at h
      obtain ⟨a, b⟩ := str_pre (fun z => (alnum_repr (List.all_eq_true.mp hp 39 z)).2 rfl) (fun z => (alnum_repr (List.all_eq_true.mp hq 39 z)).2 rfl) h
      exact ⟨by rw [← tx_eta x, ← tx_eta y, a], b⟩
    | int j =>
      obtain ⟨c, r, e, hc⟩ := intL_head j
      simp [sh, e] at h
      omega
    | bool b => cases b <;> simp [sh] at h
    | _ => simp [sh] at h
  | .list xs, q, s, t, hp, hq, _, _, h => by
    cases q with
    | list ys =>
      simp only [nc] at hp hq
      simp only [sh, List.cons_append, List.append_assoc, List.nil_append, List.cons.injEq, true_and] at h
      obtain ⟨a, b⟩ := prel xs ys s t hp hq h
      exact ⟨by rw [a], b⟩
    | int j =>
      obtain ⟨c, r, e, hc⟩ := intL_head j
      simp [sh, e] at h
      omega
    | bool b => cases b <;> simp [sh] at h
    | _ => simp [sh] at h
  | .tuple xs, q, s, t, hp, hq, _, _, h => by
    cases q with
    | tuple ys =>
      simp only [nc] at hp hq
      simp only [sh, List.cons_append, List.append_assoc, List.nil_append, List.cons.injEq, true_and] at h
      obtain ⟨a, b⟩ := pret xs ys s t hp hq h
      exact ⟨by rw [a], b⟩
    | int j =>
      obtain ⟨c, r, e, hc⟩ := intL_head j
      simp [sh, e] at h
      omega
    | bool b => cases b <;> simp [sh] at h
    | _ => simp [sh] at h
  | .dict xs, q, s, t, hp, hq, _, _, h => by
    cases q with
    | dict ys =>
      simp only [nc] at hp hq
      simp only [sh, List.cons_append, List.append_assoc, List.nil_append, List.cons.injEq, true_and] at h
      obtain ⟨a, b⟩ := pred xs ys s t hp hq h
      exact ⟨by rw [a], b⟩
    | int j =>
      obtain ⟨c, r, e, hc⟩ := intL_head j
      simp [sh, e] at h
      omega
    | bool b => cases b <;> simp [sh] at h
    | _ => simp [sh] at h
theorem prel : ∀ (xs ys : List PyData) (s t : List Nat), ncs xs = true → ncs ys = true → shs true xs ++ 93 :: s = shs true ys ++ 93 :: t → xs = ys ∧ s = t
  | [], [], s, t, _, _, h => ⟨rfl, by simpa [shs] using h⟩
  | [], y :: ys, s, t, _, _, h => by
    obtain ⟨c, r, e, h1, h2, h3⟩ := sh_head y
    simp [shs, e] at h
    omega
  | x :: xs, [], s, t, _, _, h => by
    obtain ⟨c, r, e, h1, h2, h3⟩ := sh_head x
    simp [shs, e] at h
    omega
  | x :: xs, y :: ys, s, t, hp, hq, h => by
    simp only [ncs, Bool.and_eq_true] at hp hq
    simp only [shs, if_true, List.nil_append, List.append_assoc] at h
    obtain ⟨e1, h2⟩ := pre x y _ _ hp.1 hq.1 (shs_ed xs (by omega)) (shs_ed ys (by omega)) h
    obtain ⟨e2, h3⟩ := pres xs ys 93 s t hp.2 hq.2 (by decide) (by decide) h2
    exact ⟨by rw [e1, e2], h3⟩
theorem pret : ∀ (xs ys : List PyData) (s t : List Nat), ncs xs = true → ncs ys = true → shs true xs ++ ((if xs.length = 1 then [44, 41] else [41]) ++ s) = shs true ys ++ ((if ys.length = 1 then [44, 41] else [41]) ++ t) → xs = ys ∧ s = t
  | [], [], s, t, _, _, h => ⟨rfl, by simpa [shs] using h⟩
  | [], y :: ys, s, t, _, _, h => by
    obtain ⟨c, r, e, h1, h2, h3⟩ := sh_head y
    simp [shs, e] at h
    omega
  | x :: xs, [], s, t, _, _, h => by
    obtain ⟨c, r, e, h1, h2, h3⟩ := sh_head x
    simp [shs, e] at h
    omega
  | [x], [y], s, t, hp, hq, h => by
    simp only [ncs, Bool.and_eq_true] at hp hq
    simp only [shs, if_true, List.nil_append, List.append_assoc, List.length_cons, List.length_nil, List.cons_append] at h
    obtain ⟨e1, h2⟩ := pre x y _ _ hp.1 hq.1 (ed (by omega)) (ed (by omega)) h
    simp at h2
    exact ⟨by rw [e1], h2⟩
  | [x], y :: z :: ys, s, t, hp, hq, h => by
    simp only [ncs, Bool.and_eq_true] at hp hq
    simp [shs] at h
    obtain ⟨e1, h2⟩ := pre x y _ _ hp.1 hq.1 (ed (by omega)) (ed (by omega)) h
    simp at h2
  | x :: w :: xs, [y], s, t, hp, hq, h => by
    simp only [ncs, Bool.and_eq_true] at hp hq
    simp [shs] at h
    obtain ⟨e1, h2⟩ := pre x y _ _ hp.1 hq.1 (ed (by omega)) (ed (by omega)) h
    simp at h2
  | x :: w :: xs, y :: z :: ys, s, t, hp, hq, h => by
    have hp1 : nc x = true ∧ ncs (w :: xs) = true := by simpa only [ncs, Bool.and_eq_true] using hp
    have hq1 : nc y = true ∧ ncs (z :: ys) = true := by simpa only [ncs, Bool.and_eq_true] using hq
    have l1 : ¬ (x :: w :: xs).length = 1 := by simp
    have l2 : ¬ (y :: z :: ys).length = 1 := by simp
    rw [if_neg l1, if_neg l2] at h
    have h' : sh x ++ (shs false (w :: xs) ++ 41 :: s) = sh y ++ (shs false (z :: ys) ++ 41 :: t) := by
      have u : ∀ (a : PyData) l, shs true (a :: l) = sh a ++ shs false l := fun a l => by simp [shs]
      rw [u, u, List.append_assoc, List.append_assoc] at h
      exact h
    obtain ⟨e1, h2⟩ := pre x y _ _ hp1.1 hq1.1 (shs_ed _ (by omega)) (shs_ed _ (by omega)) h'
    obtain ⟨e2, h3⟩ := pres (w :: xs) (z :: ys) 41 s t hp1.2 hq1.2 (by decide) (by decide) h2
    exact ⟨by rw [e1, e2], h3⟩
theorem pres : ∀ (xs ys : List PyData) (c : Nat) (s t : List Nat), ncs xs = true → ncs ys = true → c ≠ 44 → ¬ (48 ≤ c ∧ c ≤ 57) → shs false xs ++ c :: s = shs false ys ++ c :: t → xs = ys ∧ s = t
  | [], [], c, s, t, _, _, _, _, h => ⟨rfl, by simpa [shs] using h⟩
  | [], y :: ys, c, s, t, _, _, hc, _, h => by
    simp [shs] at h
    exact absurd h.1 hc
  | x :: xs, [], c, s, t, _, _, hc, _, h => by
    simp [shs] at h
    exact absurd h.1.symm hc
  | x :: xs, y :: ys, c, s, t, hp, hq, hc, hd, h => by
    simp only [ncs, Bool.and_eq_true] at hp hq
    simp [shs] at h
    obtain ⟨e1, h2⟩ := pre x y _ _ hp.1 hq.1 (shs_ed xs hd) (shs_ed ys hd) h
    obtain ⟨e2, h3⟩ := pres xs ys c s t hp.2 hq.2 hc hd h2
    exact ⟨by rw [e1, e2], h3⟩
theorem pred : ∀ (xs ys : List (PyData × PyData)) (s t : List Nat), nck xs = true → nck ys = true → shk true xs ++ 125 :: s = shk true ys ++ 125 :: t → xs = ys ∧ s = t
  | [], [], s, t, _, _, h => ⟨rfl, by simpa [shk] using h⟩
  | [], (a, b) :: ys, s, t, _, _, h => by
    obtain ⟨c, r, e, h1, h2, h3⟩ := sh_head a
    simp [shk, e] at h
    omega
  | (a, b) :: xs, [], s, t, _, _, h => by
    obtain ⟨c, r, e, h1, h2, h3⟩ := sh_head a
    simp [shk, e] at h
    omega
  | (a, b) :: xs, (a', b') :: ys, s, t, hp, hq, h => by
    simp only [nck, Bool.and_eq_true] at hp hq
    simp [shk] at h
    obtain ⟨e1, h2⟩ := pre a a' _ _ hp.1.1 hq.1.1 (ed (by omega)) (ed (by omega)) h
    simp at h2
    obtain ⟨e2, h3⟩ := pre b b' _ _ hp.1.2 hq.1.2 (shk_ed xs (by omega)) (shk_ed ys (by omega)) h2
    obtain ⟨e3, h4⟩ := prek xs ys 125 s t hp.2 hq.2 (by decide) (by decide) h3
    exact ⟨by rw [e1, e2, e3], h4⟩
theorem prek : ∀ (xs ys : List (PyData × PyData)) (c : Nat) (s t : List Nat), nck xs = true → nck ys = true → c ≠ 44 → ¬ (48 ≤ c ∧ c ≤ 57) → shk false xs ++ c :: s = shk false ys ++ c :: t → xs = ys ∧ s = t
  | [], [], c, s, t, _, _, _, _, h => ⟨rfl, by simpa [shk] using h⟩
  | [], (a, b) :: ys, c, s, t, _, _, hc, _, h => by
    simp [shk] at h
    exact absurd h.1 hc
  | (a, b) :: xs, [], c, s, t, _, _, hc, _, h => by
    simp [shk] at h
    exact absurd h.1.symm hc
  | (a, b) :: xs, (a', b') :: ys, c, s, t, hp, hq, hc, hd, h => by
    simp only [nck, Bool.and_eq_true] at hp hq
    simp [shk] at h
    obtain ⟨e1, h2⟩ := pre a a' _ _ hp.1.1 hq.1.1 (ed (by omega)) (ed (by omega)) h
    simp at h2
    obtain ⟨e2, h3⟩ := pre b b' _ _ hp.1.2 hq.1.2 (shk_ed xs hd) (shk_ed ys hd) h2
    obtain ⟨e3, h4⟩ := prek xs ys c s t hp.2 hq.2 hc hd h3
    exact ⟨by rw [e1, e2, e3], h4⟩
end
/-- repr tells plain data apart -/
theorem shown_inj {p q : PyData} (hp : nc p = true) (hq : nc q = true) (h : p.shown = q.shown) : p = q := by
  have e : sh p ++ [] = sh q ++ [] := by rw [← shown_sh p hp, ← shown_sh q hq, h]
  exact (pre p q [] [] hp hq (fun _ _ z => by cases z) (fun _ _ z => by cases z) e).1
end Fm
/-! Fm29: data that repr tells apart. -/
namespace Fm
open PySem Tk
mutual
theorem py_inj : ∀ (d e : D) (p : PyData), toPyD d = some p → toPyD e = some p → d = e
  | .non, e, p, h, k => by
    unfold toPyD at h
    cases h
    cases e with
    | tup l => unfold toPyD at k; cases hl : toPysD l <;> rw [hl] at k <;> cases k
    | lst l => unfold toPyD at k; cases hl : toPysD l <;> rw [hl] at k <;> cases k
    | dct ks l => rcases toPyD_dct k with ⟨_, _, z⟩ | ⟨_, _, _, _, z⟩ <;> cases z
    | non => rfl
    | _ => unfold toPyD at k; cases k
  | .bl b, e, p, h, k => by
    unfold toPyD at h
    cases h
    cases e with
    | tup l => unfold toPyD at k; cases hl : toPysD l <;> rw [hl] at k <;> cases k
    | lst l => unfold toPyD at k; cases hl : toPysD l <;> rw [hl] at k <;> cases k
    | dct ks l => rcases toPyD_dct k with ⟨_, _, z⟩ | ⟨_, _, _, _, z⟩ <;> cases z
    | bl c => unfold toPyD at k; cases k; rfl
    | _ => unfold toPyD at k; cases k
  | .int b, e, p, h, k => by
    unfold toPyD at h
    cases h
    cases e with
    | tup l => unfold toPyD at k; cases hl : toPysD l <;> rw [hl] at k <;> cases k
    | lst l => unfold toPyD at k; cases hl : toPysD l <;> rw [hl] at k <;> cases k
    | dct ks l => rcases toPyD_dct k with ⟨_, _, z⟩ | ⟨_, _, _, _, z⟩ <;> cases z
    | int c => unfold toPyD at k; cases k; rfl
    | _ => unfold toPyD at k; cases k
  | .str b, e, p, h, k => by
    unfold toPyD at h
    cases h
    cases e with
    | tup l => unfold toPyD at k; cases hl : toPysD l <;> rw [hl] at k <;> cases k
    | lst l => unfold toPyD at k; cases hl : toPysD l <;> rw [hl] at k <;> cases k
    | dct ks l => rcases toPyD_dct k with ⟨_, _, z⟩ | ⟨_, _, _, _, z⟩ <;> cases z
    | str c => unfold toPyD at k; cases k; rfl
    | _ => unfold toPyD at k; cases k
  | .tup a, e, p, h, k => by
    unfold toPyD at h
    cases ha : toPysD a with
    | none => rw [ha] at h; cases h
    | some qs =>
      rw [ha] at h
      cases h
      cases e with
      | tup l =>
        unfold toPyD at k
        cases hl : toPysD l with
        | none => rw [hl] at k; cases k
        | some rs =>
          rw [hl] at k
          cases k
          rw [pys_inj a l _ ha hl]
      | lst l => unfold toPyD at k; cases hl : toPysD l <;> rw [hl] at k <;> cases k
      | dct ks l => rcases toPyD_dct k with ⟨_, _, z⟩ | ⟨_, _, _, _, z⟩ <;> cases z
      | _ => unfold toPyD at k; cases k
  | .lst a, e, p, h, k => by
    unfold toPyD at h
    cases ha : toPysD a with
    | none => rw [ha] at h; cases h
    | some qs =>
      rw [ha] at h
      cases h
      cases e with
      | lst l =>
        unfold toPyD at k
        cases hl : toPysD l with
        | none => rw [hl] at k; cases k
        | some rs =>
          rw [hl] at k
          cases k
          rw [pys_inj a l _ ha hl]
      | tup l => unfold toPyD at k; cases hl : toPysD l <;> rw [hl] at k <;> cases k
      | dct ks l => rcases toPyD_dct k with ⟨_, _, z⟩ | ⟨_, _, _, _, z⟩ <;> cases z
      | _ => unfold toPyD at k; cases k
  | .dct ks l, e, p, h, k => by
    rcases toPyD_dct h with ⟨rfl, rfl, rfl⟩ | ⟨x, i, rfl, rfl, rfl⟩
    · cases e with
      | tup l => unfold toPyD at k; cases hl : toPysD l <;> rw [hl] at k <;> cases k
      | lst l => unfold toPyD at k; cases hl : toPysD l <;> rw [hl] at k <;> cases k
      | dct ks l =>
        rcases toPyD_dct k with ⟨rfl, rfl, z⟩ | ⟨_, _, _, _, z⟩
        · rfl
        · cases z
      | _ => unfold toPyD at k; cases k
    · cases e with
      | tup l => unfold toPyD at k; cases hl : toPysD l <;> rw [hl] at k <;> cases k
      | lst l => unfold toPyD at k; cases hl : toPysD l <;> rw [hl] at k <;> cases k
      | dct ks l =>
        rcases toPyD_dct k with ⟨rfl, rfl, z⟩ | ⟨_, _, rfl, rfl, z⟩
        · cases z
        · cases z
          rfl
      | _ => unfold toPyD at k; cases k
  | .obj .., _, _, h, _ => by unfold toPyD at h; cases h
  | .fn .., _, _, h, _ => by unfold toPyD at h; cases h
  | .scr .., _, _, h, _ => by unfold toPyD at h; cases h
theorem pys_inj : ∀ (d e : List D) (p : List PyData), toPysD d = some p → toPysD e = some p → d = e
  | [], e, p, h, k => by
    unfold toPysD at h
    cases h
    cases e with
    | nil => rfl
    | cons y e =>
      unfold toPysD at k
      split at k <;> cases k
  | x :: d, e, p, h, k => by
    unfold toPysD at h
    split at h
    · rename_i q qs h1 h2
      cases h
      cases e with
      | nil => unfold toPysD at k; cases k
      | cons y e =>
        unfold toPysD at k
        split at k
        · rename_i q' qs' k1 k2
          cases k
          rw [py_inj x y _ h1 k1, pys_inj d e _ h2 k2]
        · cases k
    · cases h
end
/-! things that are told by repr -/
def Tn (k n : Nat) (d : D) : Prop := ∃ p, toPyD d = some p ∧ p.depth ≤ k ∧ p.showable = true ∧ p.leavesShort 200 = true ∧ p.bulk ≤ n
def Tns (k n : Nat) (l : List D) : Prop := ∃ p, toPysD l = some p ∧ PyData.depthAll p ≤ k ∧ PyData.showableAll p = true ∧ PyData.leavesShortAll 200 p = true ∧ PyData.bulkAll p ≤ n
theorem Tn.more {k k' n n' : Nat} {d : D} (h : Tn k n d) (hk : k ≤ k') (hn : n ≤ n') : Tn k' n' d := by
  obtain ⟨p, a, b, c, e, f⟩ := h
  exact ⟨p, a, by omega, c, e, by omega⟩
theorem tns_of {k n : Nat} : ∀ {l : List D}, (∀ d ∈ l, Tn k n d) → Tns k ((n + 1) * l.length) l
  | [], _ => ⟨[], by simp [toPysD], by simp [PyData.depthAll], by simp [PyData.showableAll], by simp [PyData.leavesShortAll], by simp [PyData.bulkAll]⟩
  | x :: l, h => by
    obtain ⟨p, a, b, c, e, f⟩ := h x (List.mem_cons_self ..)
    obtain ⟨ps, a', b', c', e', f'⟩ := tns_of fun d hd => h d (List.mem_cons_of_mem _ hd)
    refine ⟨p :: ps, by simp [toPysD, a, a'], by simp only [PyData.depthAll]; exact Nat.max_le.mpr ⟨b, b'⟩, by simp only [PyData.showableAll, c, c', Bool.and_self], by simp only [PyData.leavesShortAll, e, e', Bool.and_self], ?_⟩
    simp only [PyData.bulkAll, List.length_cons, Nat.mul_add, Nat.mul_one]
    omega
theorem tn_tup {k n m : Nat} {l : List D} (h : ∀ d ∈ l, Tn k n d) (hm : l.length ≤ m) : Tn (k + 1) ((n + 1) * m) (.tup l) := by
  obtain ⟨p, a, b, c, e, f⟩ := tns_of h
  refine ⟨.tuple p, by simp [toPyD, a], by simp only [PyData.depth]; omega, by simpa only [PyData.showable] using c, by simpa only [PyData.leavesShort] using e, ?_⟩
  simp only [PyData.bulk]
  exact Nat.le_trans f (Nat.mul_le_mul_left _ hm)
theorem tn_lst {k n m : Nat} {l : List D} (h : ∀ d ∈ l, Tn k n d) (hm : l.length ≤ m) : Tn (k + 1) ((n + 1) * m) (.lst l) := by
  obtain ⟨p, a, b, c, e, f⟩ := tns_of h
  refine ⟨.list p, by simp [toPyD, a], by simp only [PyData.depth]; omega, by simpa only [PyData.showable] using c, by simpa only [PyData.leavesShort] using e, ?_⟩
  simp only [PyData.bulk]
  exact Nat.le_trans f (Nat.mul_le_mul_left _ hm)
theorem tn_non {k n : Nat} : Tn k n .non := ⟨.none, by simp [toPyD], by simp [PyData.depth], by simp [PyData.showable], by simp [PyData.leavesShort], by simp [PyData.bulk]⟩
theorem tn_bl {k n : Nat} (b : Bool) : Tn k n (.bl b) := ⟨.bool b, by simp [toPyD], by simp [PyData.depth], by simp [PyData.showable], by simp [PyData.leavesShort], by simp [PyData.bulk]⟩
theorem tn_dct {k n : Nat} (hk : 1 ≤ k) : Tn k n (.dct [] []) := ⟨.dict [], by simp [toPyD], by simp only [PyData.depth, PyData.depthKv]; omega, by simp [PyData.showable, PyData.showableKv], by simp [PyData.leavesShort, PyData.leavesShortKv], by simp [PyData.bulk, PyData.bulkKv]⟩
theorem Fine.tn {k n : Nat} {d : D} {p : PyData} (h : Fine 200 k n d p) (e : toPyD d = some p) : Tn k n d := ⟨p, e, h.d, h.s, h.l, h.b⟩
theorem tn_int {k n : Nat} {i : Int} (h : i.natAbs < 10 ^ 190) : Tn k n (.int i) := Fine.tn (fi_int h) (by simp [toPyD])
theorem tn_str {k n : Nat} {x : Str} (h : StrOk x) (hn : x.cps.size ≤ n) : Tn k n (.str x) := ⟨.str x, by simp [toPyD], by simp [PyData.depth], by simp [PyData.showable], by simp only [PyData.leavesShort]; exact h.2.1, by simp only [PyData.bulk]; exact hn⟩
theorem Tn.repr {k n : Nat} {d : D} (h : Tn k n d) (hk : k ≤ 64 := by omega) (hn : 202 * n + 200 ≤ 1000000 := by omega) : ∃ p, toPyD d = some p ∧ fReprD d = some (.dat (.str p.shown)) := by
  obtain ⟨p, a, b, c, e, f⟩ := h
  refine ⟨p, a, ?_⟩
  unfold fReprD
  rw [a]
  have := PyData.shown_le_bulk 200 (by omega) p e
  have : (200 + 2) * p.bulk ≤ 202 * n := Nat.mul_le_mul_left _ f
  simp only
  rw [if_pos ⟨c, by omega, decide_eq_true (by omega)⟩]
theorem Tn.pl {k n : Nat} {d : D} (h : Tn k n d) (hn : n ≤ 1000000 := by omega) : Pl d := by
  obtain ⟨p, a, b, c, e, f⟩ := h
  cases d with
  | str x =>
    have : p = .str x := by
      unfold toPyD at a
      exact (Option.some.inj a).symm
    subst this
    simp only [PyData.bulk] at f
    show x.cps.size ≤ 1000000
    omega
  | obj => unfold toPyD at a; cases a
  | fn => unfold toPyD at a; cases a
  | scr => unfold toPyD at a; cases a
  | _ => trivial
theorem tns_mem {k n : Nat} : ∀ {l : List D}, Tns k n l → ∀ d ∈ l, Tn k n d
  | [], _, d, hd => by cases hd
  | x :: l, h, d, hd => by
    obtain ⟨p, a, b, c, e, f⟩ := h
    unfold toPysD at a
    split at a
    · rename_i q qs h1 h2
      cases a
      simp only [PyData.depthAll, PyData.showableAll, PyData.leavesShortAll, PyData.bulkAll, Bool.and_eq_true] at b c e f
      have b' := Nat.max_le.mp b
      rcases List.mem_cons.mp hd with rfl | hd
      · exact ⟨q, h1, b'.1, c.1, e.1, by omega⟩
      · exact tns_mem ⟨qs, h2, b'.2, c.2, e.2, by omega⟩ d hd
    · cases a
theorem Tn.mem {k n : Nat} {l : List D} (h : Tn k n (.tup l)) : ∀ d ∈ l, Tn k n d := by
  obtain ⟨p, a, b, c, e, f⟩ := h
  unfold toPyD at a
  cases hp : toPysD l with
  | none => rw [hp] at a; cases a
  | some q =>
    rw [hp] at a
    cases a
    simp only [PyData.depth, PyData.showable, PyData.leavesShort, PyData.bulk] at b c e f
    exact tns_mem ⟨q, hp, by omega, c, e, f⟩
theorem Tn.pls {k n : Nat} {d : D} (h : Tn k n d) (hn : n ≤ 1000000 := by omega) : Pls d := by
  cases d with
  | tup l => exact fun d hd => (h.mem d hd).pl hn
  | _ => exact h.pl hn
theorem Tn.plss {k n : Nat} {d : D} (h : Tn k n d) (hn : n ≤ 1000000 := by omega) : Plss d := by
  cases d with
  | tup l => exact fun d hd => (h.mem d hd).pls hn
  | _ => exact h.pl hn
/-- told by repr, and apart from all else that is -/
def Rp (d : D) : Prop := ∃ p, toPyD d = some p ∧ fReprE d = some (.dat (.str p.shown)) ∧ nc p = true
def Nd (d : D) : Prop := ∀ p, toPyD d = some p → nc p = true
theorem nds : ∀ {l : List D}, (∀ d ∈ l, Nd d) → ∀ p, toPysD l = some p → ncs p = true
  | [], _, p, e => by
    unfold toPysD at e
    cases e
    rfl
  | x :: l, h, p, e => by
    unfold toPysD at e
    split at e
    · rename_i q qs h1 h2
      cases e
      simp only [ncs, Bool.and_eq_true]
      exact ⟨h x List.mem_cons_self q h1, nds (fun d hd => h d (List.mem_cons_of_mem _ hd)) qs h2⟩
    · cases e
theorem nd_tup {l : List D} (h : ∀ d ∈ l, Nd d) : Nd (.tup l) := fun p e => by
  unfold toPyD at e
  cases hl : toPysD l with
  | none => rw [hl] at e; cases e
  | some q =>
    rw [hl] at e
    cases e
    simpa only [nc] using nds h q hl
theorem nd_lst {l : List D} (h : ∀ d ∈ l, Nd d) : Nd (.lst l) := fun p e => by
  unfold toPyD at e
  cases hl : toPysD l with
  | none => rw [hl] at e; cases e
  | some q =>
    rw [hl] at e
    cases e
    simpa only [nc] using nds h q hl
theorem nd_non : Nd .non := fun p e => by unfold toPyD at e; cases e; rfl
theorem nd_bl {b : Bool} : Nd (.bl b) := fun p e => by unfold toPyD at e; cases e; rfl
theorem nd_int {i : Int} (h : i.natAbs < 10 ^ 190) : Nd (.int i) := fun p e => by
  unfold toPyD at e
  cases e
  unfold nc
  exact decide_eq_true h
theorem nd_str {x : Str} (h : x.cps.toList.all alnum = true) : Nd (.str x) := fun p e => by
  unfold toPyD at e
  cases e
  unfold nc
  exact h
theorem nd_dct : Nd (.dct [] []) := fun p e => by
  rcases toPyD_dct e with ⟨_, _, rfl⟩ | ⟨_, _, z, _⟩
  · rfl
  · cases z
theorem rp_of {k n : Nat} {d : D} (h : Tn k n d) (nd : Nd d) (hk : k ≤ 64 := by omega) (hn : 202 * n + 200 ≤ 1000000 := by omega) : Rp d := by
  obtain ⟨p, a, e⟩ := h.repr hk hn
  refine ⟨p, a, ?_, nd p a⟩
  have no : fRepr2 d = none := by
    unfold fRepr2
    split
    · rename_i i j x y
      rcases toPyD_dct a with ⟨z, _⟩ | ⟨_, _, z, _⟩ <;> cases z
    · rfl
  unfold fReprE
  rw [no]
  exact e
/-- two reprs beside each other -/
theorem rp_ne {d e : D} (h : Rp d) (k : Rp e) : ∃ x y, fReprE d = some (.dat (.str x)) ∧ fReprE e = some (.dat (.str y)) ∧ (x = y ↔ d = e) := by
  obtain ⟨p, a, b, c⟩ := h
  obtain ⟨q, a', b', c'⟩ := k
  refine ⟨_, _, b, b', ⟨fun z => ?_, fun z => ?_⟩⟩
  · have := shown_inj c c' z
    subst this
    exact py_inj d e _ a a'
  · subst z
    rw [a] at a'
    cases a'
    rfl
/-- a dict of two is shown as nothing else -/
theorem rp_two {i j : Int} {x y e : D} (hi : i.natAbs < 10 ^ 190) (hj : j.natAbs < 10 ^ 190) {k n : Nat} (hx : Tn k n x) (hy : Tn k n y) (nx : Nd x) (ny : Nd y) (he : Rp e) (hk : k + 1 ≤ 64 := by omega) (hn : 202 * (2 * n + 6) + 200 ≤ 1000000 := by omega) :
    ∃ u v, fReprE (.dct [.inl i, .inl j] [x, y]) = some (.dat (.str u)) ∧ fReprE e = some (.dat (.str v)) ∧ u ≠ v := by
  obtain ⟨p, a, b, c, l, f⟩ := hx
  obtain ⟨q, a', b', c', l', f'⟩ := hy
  have f1 := fi_int (i := i) (k := 0) (n := 0) hi
  have f2 := fi_int (i := j) (k := 0) (n := 0) hj
  have s1 := f1.s
  have s2 := f2.s
  have l1 := f1.l
  have l2 := f2.l
  have b1 := f1.b
  have b2 := f2.b
  have sh : (two i j p q).showable = true := by
    simp only [two, PyData.showable, PyData.showableKv, Bool.and_eq_true] at s1 s2 ⊢
    exact ⟨⟨s1, c⟩, ⟨s2, c'⟩, trivial⟩
  have dp : (two i j p q).depth ≤ 64 := by
    simp only [two, PyData.depth, PyData.depthKv]
    simp only [Nat.zero_max, Nat.max_zero]
    have := Nat.max_le.mpr ⟨b, b'⟩
    omega
  have lv : (two i j p q).leavesShort 200 = true := by
    simp only [two, PyData.leavesShort, PyData.leavesShortKv, Bool.and_eq_true] at l1 l2 ⊢
    exact ⟨⟨l1, l⟩, ⟨l2, l'⟩, trivial⟩
  have bk : (two i j p q).bulk ≤ 2 * n + 6 := by
    simp only [two, PyData.bulk, PyData.bulkKv] at b1 b2 ⊢
    omega
  have := PyData.shown_le_bulk 200 (by omega) _ lv
  have : (200 + 2) * (two i j p q).bulk ≤ 202 * (2 * n + 6) := Nat.mul_le_mul_left _ bk
  have e1 : fRepr2 (.dct [.inl i, .inl j] [x, y]) = some (.dat (.str (two i j p q).shown)) := by
    unfold fRepr2
    simp only
    rw [a, a']
    simp only
    rw [if_pos ⟨sh, dp, decide_eq_true (by omega)⟩]
  obtain ⟨r, ar, br, cr⟩ := he
  refine ⟨_, _, by unfold fReprE; rw [e1], br, fun z => ?_⟩
  have nc2 : nc (two i j p q) = true := by
    simp only [two, nc, nck, Bool.and_eq_true]
    exact ⟨⟨decide_eq_true hi, nx p a⟩, ⟨decide_eq_true hj, ny q a'⟩, trivial⟩
  have := shown_inj nc2 cr z
  subst this
  cases e with
  | tup l => unfold toPyD at ar; cases hl : toPysD l <;> rw [hl] at ar <;> cases ar
  | lst l => unfold toPyD at ar; cases hl : toPysD l <;> rw [hl] at ar <;> cases ar
  | dct ks l => rcases toPyD_dct ar with ⟨_, _, z⟩ | ⟨_, _, _, _, z⟩ <;> cases z
  | _ => unfold toPyD at ar; cases ar
end Fm
namespace K16
open PySem Tk Fm
def sA : D := .str (Str.ofString "a")
def oddH : List D := [.non, .bl true, sA, .tup [], .lst [], .tup [sA, .int (-1)], .tup [.str (Str.ofString "A"), .int 0], .tup [.str (Str.ofString "ab"), .int 0], .lst [sA, .int 0], .tup [sA, .str (Str.ofString "0")], .tup [sA, .bl true], .tup [.str (Str.ofString ""), .int 0], .tup [sA],
  .tup [sA, .int 0, .int 0], .tup [sA, .non], .int 7, .dct [] [], .tup [.int 0, sA]]
def oddT : List D := [.non, .bl true, .str (Str.ofString "abc"), .tup [], .lst [], .tup [sA, .int (-1), .int 1], .tup [.str (Str.ofString "A"), .int 0, .int 1], .tup [.str (Str.ofString "ab"), .int 0, .int 1], .lst [sA, .int 0, .int 1], .tup [sA, .int 0, .int 0], .tup [sA, .int 0, .int (-1)],
  .tup [sA, .int 0], .tup [sA, .int 0, .bl true], .tup [sA, .bl false, .int 1], .tup [sA, .int 0, .int 1, .int 1], .tup [sA, .str (Str.ofString "0"), .int 1], .tup [.int 0, .int 1, sA], .dct [] []]
/-- small things -/
def Sm (d : D) : Prop := Tn 1 6 d ∧ Nd d
theorem t0 {x : Str} (h1 : StrOk x) (h2 : x.cps.size ≤ 3) : Tn 0 3 (.str x) := tn_str h1 h2
theorem sm3 {l : List D} (h : ∀ d ∈ l, (∃ x, d = .str x ∧ StrOk x ∧ x.cps.size ≤ 2 ∧ x.cps.toList.all alnum = true) ∨ d = .non ∨ (∃ b, d = .bl b) ∨ ∃ i : Int, d = .int i ∧ i.natAbs < 10 ^ 190) (hl : l.length ≤ 4) : Tn 1 12 (.tup l) ∧ Tn 1 12 (.lst l) ∧ Nd (.tup l) ∧ Nd (.lst l) := by
  have a : ∀ d ∈ l, Tn 0 2 d := fun d hd => by
    rcases h d hd with ⟨x, rfl, h1, h2, h3⟩ | rfl | ⟨b, rfl⟩ | ⟨i, rfl, h1⟩
    · exact tn_str h1 h2
    · exact tn_non
    · exact tn_bl b
    · exact tn_int h1
  have b : ∀ d ∈ l, Nd d := fun d hd => by
    rcases h d hd with ⟨x, rfl, h1, h2, h3⟩ | rfl | ⟨b, rfl⟩ | ⟨i, rfl, h1⟩
    · exact nd_str h3
    · exact nd_non
    · exact nd_bl
    · exact nd_int h1
  exact ⟨tn_tup a hl, tn_lst a hl, nd_tup b, nd_lst b⟩
theorem odd_ok {o : D} (h : o ∈ oddH ∨ o ∈ oddT) : Tn 1 12 o ∧ Nd o := by
  have a : ∃ x, sA = .str x ∧ StrOk x ∧ x.cps.size ≤ 2 ∧ x.cps.toList.all alnum = true := ⟨_, rfl, ⟨by decide +kernel, by decide +kernel, by decide +kernel⟩, by decide +kernel, by decide +kernel⟩
  have aA : ∃ x, D.str (Str.ofString "A") = .str x ∧ StrOk x ∧ x.cps.size ≤ 2 ∧ x.cps.toList.all alnum = true := ⟨_, rfl, ⟨by decide +kernel, by decide +kernel, by decide +kernel⟩, by decide +kernel, by decide +kernel⟩
  have ab : ∃ x, D.str (Str.ofString "ab") = .str x ∧ StrOk x ∧ x.cps.size ≤ 2 ∧ x.cps.toList.all alnum = true := ⟨_, rfl, ⟨by decide +kernel, by decide +kernel, by decide +kernel⟩, by decide +kernel, by decide +kernel⟩
  have a0 : ∃ x, D.str (Str.ofString "0") = .str x ∧ StrOk x ∧ x.cps.size ≤ 2 ∧ x.cps.toList.all alnum = true := ⟨_, rfl, ⟨by decide +kernel, by decide +kernel, by decide +kernel⟩, by decide +kernel, by decide +kernel⟩
  have ae : ∃ x, D.str (Str.ofString "") = .str x ∧ StrOk x ∧ x.cps.size ≤ 2 ∧ x.cps.toList.all alnum = true := ⟨_, rfl, ⟨by decide +kernel, by decide +kernel, by decide +kernel⟩, by decide +kernel, by decide +kernel⟩
  have i0 : ∃ i : Int, D.int 0 = .int i ∧ i.natAbs < 10 ^ 190 := ⟨0, rfl, by decide +kernel⟩
  have i1 : ∃ i : Int, D.int 1 = .int i ∧ i.natAbs < 10 ^ 190 := ⟨1, rfl, by decide +kernel⟩
  have im : ∃ i : Int, D.int (-1) = .int i ∧ i.natAbs < 10 ^ 190 := ⟨-1, rfl, by decide +kernel⟩
  have bt : ∃ b, D.bl true = .bl b := ⟨_, rfl⟩
  have bf : ∃ b, D.bl false = .bl b := ⟨_, rfl⟩
  have tp : ∀ {l : List D}, (∀ d ∈ l, (∃ x, d = .str x ∧ StrOk x ∧ x.cps.size ≤ 2 ∧ x.cps.toList.all alnum = true) ∨ d = .non ∨ (∃ b, d = .bl b) ∨ ∃ i : Int, d = .int i ∧ i.natAbs < 10 ^ 190) → l.length ≤ 4 → Tn 1 12 (.tup l) ∧ Nd (.tup l) := fun h hl => ⟨(sm3 h hl).1, (sm3 h hl).2.2.1⟩
  have ls : ∀ {l : List D}, (∀ d ∈ l, (∃ x, d = .str x ∧ StrOk x ∧ x.cps.size ≤ 2 ∧ x.cps.toList.all alnum = true) ∨ d = .non ∨ (∃ b, d = .bl b) ∨ ∃ i : Int, d = .int i ∧ i.natAbs < 10 ^ 190) → l.length ≤ 4 → Tn 1 12 (.lst l) ∧ Nd (.lst l) := fun h hl => ⟨(sm3 h hl).2.1, (sm3 h hl).2.2.2⟩
  have st : ∀ {x : Str}, StrOk x → x.cps.size ≤ 3 → x.cps.toList.all alnum = true → Tn 1 12 (.str x) ∧ Nd (.str x) := fun h1 h2 h3 => ⟨tn_str h1 (by omega), nd_str h3⟩
  rcases h with h | h
  · simp only [oddH, List.mem_cons, List.not_mem_nil, or_false] at h
    rcases h with rfl | rfl | rfl | rfl | rfl | rfl | rfl | rfl | rfl | rfl | rfl | rfl | rfl | rfl | rfl | rfl | rfl | rfl
    · exact ⟨tn_non, nd_non⟩
    · exact ⟨tn_bl _, nd_bl⟩
    · exact st ⟨by decide +kernel, by decide +kernel, by decide +kernel⟩ (by decide +kernel) (by decide +kernel)
    · exact tp (by simp) (by simp)
    · exact ls (by simp) (by simp)
    · exact tp (by simp only [List.mem_cons, List.not_mem_nil, or_false, forall_eq_or_imp, forall_eq]; exact ⟨.inl a, .inr (.inr (.inr im))⟩) (by simp)
    · exact tp (by simp only [List.mem_cons, List.not_mem_nil, or_false, forall_eq_or_imp, forall_eq]; exact ⟨.inl aA, .inr (.inr (.inr i0))⟩) (by simp)
    · exact tp (by simp only [List.mem_cons, List.not_mem_nil, or_false, forall_eq_or_imp, forall_eq]; exact ⟨.inl ab, .inr (.inr (.inr i0))⟩) (by simp)
    · exact ls (by simp only [List.mem_cons, List.not_mem_nil, or_false, forall_eq_or_imp, forall_eq]; exact ⟨.inl a, .inr (.inr (.inr i0))⟩) (by simp)
    · exact tp (by simp only [List.mem_cons, List.not_mem_nil, or_false, forall_eq_or_imp, forall_eq]; exact ⟨.inl a, .inl a0⟩) (by simp)
    · exact tp (by simp only [List.mem_cons, List.not_mem_nil, or_false, forall_eq_or_imp, forall_eq]; exact ⟨.inl a, .inr (.inr (.inl bt))⟩) (by simp)
    · exact tp (by simp only [List.mem_cons, List.not_mem_nil, or_false, forall_eq_or_imp, forall_eq]; exact ⟨.inl ae, .inr (.inr (.inr i0))⟩) (by simp)
    · exact tp (by simp only [List.mem_cons, List.not_mem_nil, or_false, forall_eq_or_imp, forall_eq]; exact .inl a) (by simp)
    · exact tp (by simp only [List.mem_cons, List.not_mem_nil, or_false, forall_eq_or_imp, forall_eq]; exact ⟨.inl a, .inr (.inr (.inr i0)), .inr (.inr (.inr i0))⟩) (by simp)
    · exact tp (by simp only [List.mem_cons, List.not_mem_nil, or_false, forall_eq_or_imp, forall_eq]; exact ⟨.inl a, .inr (.inl True.intro)⟩) (by simp)
    · exact ⟨tn_int (by decide +kernel), nd_int (by decide +kernel)⟩
    · exact ⟨tn_dct (by omega), nd_dct⟩
    · exact tp (by simp only [List.mem_cons, List.not_mem_nil, or_false, forall_eq_or_imp, forall_eq]; exact ⟨.inr (.inr (.inr i0)), .inl a⟩) (by simp)
  · simp only [oddT, List.mem_cons, List.not_mem_nil, or_false] at h
    rcases h with rfl | rfl | rfl | rfl | rfl | rfl | rfl | rfl | rfl | rfl | rfl | rfl | rfl | rfl | rfl | rfl | rfl | rfl
    · exact ⟨tn_non, nd_non⟩
    · exact ⟨tn_bl _, nd_bl⟩
    · exact st ⟨by decide +kernel, by decide +kernel, by decide +kernel⟩ (by decide +kernel) (by decide +kernel)
    · exact tp (by simp) (by simp)
    · exact ls (by simp) (by simp)
    · exact tp (by simp only [List.mem_cons, List.not_mem_nil, or_false, forall_eq_or_imp, forall_eq]; exact ⟨.inl a, .inr (.inr (.inr im)), .inr (.inr (.inr i1))⟩) (by simp)
    · exact tp (by simp only [List.mem_cons, List.not_mem_nil, or_false, forall_eq_or_imp, forall_eq]; exact ⟨.inl aA, .inr (.inr (.inr i0)), .inr (.inr (.inr i1))⟩) (by simp)
    · exact tp (by simp only [List.mem_cons, List.not_mem_nil, or_false, forall_eq_or_imp, forall_eq]; exact ⟨.inl ab, .inr (.inr (.inr i0)), .inr (.inr (.inr i1))⟩) (by simp)
    · exact ls (by simp only [List.mem_cons, List.not_mem_nil, or_false, forall_eq_or_imp, forall_eq]; exact ⟨.inl a, .inr (.inr (.inr i0)), .inr (.inr (.inr i1))⟩) (by simp)
    · exact tp (by simp only [List.mem_cons, List.not_mem_nil, or_false, forall_eq_or_imp, forall_eq]; exact ⟨.inl a, .inr (.inr (.inr i0)), .inr (.inr (.inr i0))⟩) (by simp)
    · exact tp (by simp only [List.mem_cons, List.not_mem_nil, or_false, forall_eq_or_imp, forall_eq]; exact ⟨.inl a, .inr (.inr (.inr i0)), .inr (.inr (.inr im))⟩) (by simp)
    · exact tp (by simp only [List.mem_cons, List.not_mem_nil, or_false, forall_eq_or_imp, forall_eq]; exact ⟨.inl a, .inr (.inr (.inr i0))⟩) (by simp)
    · exact tp (by simp only [List.mem_cons, List.not_mem_nil, or_false, forall_eq_or_imp, forall_eq]; exact ⟨.inl a, .inr (.inr (.inr i0)), .inr (.inr (.inl bt))⟩) (by simp)
    · exact tp (by simp only [List.mem_cons, List.not_mem_nil, or_false, forall_eq_or_imp, forall_eq]; exact ⟨.inl a, .inr (.inr (.inl bf)), .inr (.inr (.inr i1))⟩) (by simp)
    · exact tp (by simp only [List.mem_cons, List.not_mem_nil, or_false, forall_eq_or_imp, forall_eq]; exact ⟨.inl a, .inr (.inr (.inr i0)), .inr (.inr (.inr i1)), .inr (.inr (.inr i1))⟩) (by simp)
    · exact tp (by simp only [List.mem_cons, List.not_mem_nil, or_false, forall_eq_or_imp, forall_eq]; exact ⟨.inl a, .inl a0, .inr (.inr (.inr i1))⟩) (by simp)
    · exact tp (by simp only [List.mem_cons, List.not_mem_nil, or_false, forall_eq_or_imp, forall_eq]; exact ⟨.inr (.inr (.inr i0)), .inr (.inr (.inr i1)), .inl a⟩) (by simp)
    · exact ⟨tn_dct (by omega), nd_dct⟩
theorem oddH_no {o : D} (h : o ∈ oddH) : ticketB o = false := by
  have e1 : letterB (.str (Str.ofString "A")) = false := by decide +kernel
  have e2 : letterB (.str (Str.ofString "ab")) = false := by decide +kernel
  have e3 : letterB (.str (Str.ofString "")) = false := by decide +kernel
  have e4 : letterB (.int 0) = false := rfl
  simp only [oddH, List.mem_cons, List.not_mem_nil, or_false] at h
  rcases h with rfl | rfl | rfl | rfl | rfl | rfl | rfl | rfl | rfl | rfl | rfl | rfl | rfl | rfl | rfl | rfl | rfl | rfl <;> simp [ticketB, wholeB, sA, e1, e2, e3, e4]
theorem oddT_no {o : D} (h : o ∈ oddT) : lineB o = false := by
  have e1 : letterB (.str (Str.ofString "A")) = false := by decide +kernel
  have e2 : letterB (.str (Str.ofString "ab")) = false := by decide +kernel
  simp only [oddT, List.mem_cons, List.not_mem_nil, or_false] at h
  rcases h with rfl | rfl | rfl | rfl | rfl | rfl | rfl | rfl | rfl | rfl | rfl | rfl | rfl | rfl | rfl | rfl | rfl | rfl <;> simp [lineB, wholeB, posB, sA, e1, e2]
/-- what is made of a side -/
structure Sd (b : D → Bool) (B : List D) (x : D) : Prop where
  tn : Tn 2 1205 x
  nd : Nd x
  or : x = .tup B ∨ allB b x = false
theorem sd_lst {b : D → Bool} {B : List D} (hl : B.length ≤ 6) (hB : ∀ x ∈ B, Tn 1 4 x ∧ Nd x) : Sd b B (.lst B) := ⟨(tn_lst (fun d hd => (hB d hd).1) hl).more (by omega) (by omega), nd_lst fun d hd => (hB d hd).2, .inr rfl⟩
theorem sd_self {b : D → Bool} {B : List D} (hl : B.length ≤ 6) (hB : ∀ x ∈ B, Tn 1 4 x ∧ Nd x) : Sd b B (.tup B) := ⟨(tn_tup (fun d hd => (hB d hd).1) hl).more (by omega) (by omega), nd_tup fun d hd => (hB d hd).2, .inl rfl⟩
theorem sd_odd {b : D → Bool} {B : List D} (hl : B.length ≤ 6) (hB : ∀ x ∈ B, Tn 1 4 x ∧ Nd x) {o : D} (ho : Tn 1 12 o ∧ Nd o) (hb : b o = false) (i j : Nat) : Sd b B (.tup (B.take i ++ [o] ++ B.drop j)) := by
  have m : ∀ d ∈ B.take i ++ [o] ++ B.drop j, Tn 1 12 d ∧ Nd d := fun d hd => by
    rcases List.mem_append.mp hd with z | z
    · rcases List.mem_append.mp z with z | z
      · have := hB d (List.mem_of_mem_take z)
        exact ⟨this.1.more (by omega) (by omega), this.2⟩
      · rw [List.mem_singleton] at z
        subst z
        exact ho
    · have := hB d (List.mem_of_mem_drop z)
      exact ⟨this.1.more (by omega) (by omega), this.2⟩
  refine ⟨(tn_tup (m := 13) (fun d hd => (m d hd).1) (by simp; omega)).more (by omega) (by omega), nd_tup fun d hd => (m d hd).2, .inr ?_⟩
  simp [allB, hb]
theorem sd_many {b : D → Bool} {B : List D} {f : Nat → D} (h : ∀ k, k < 241 → Tn 1 4 (f k) ∧ Nd (f k)) : Sd b B (.tup ((List.range 241).map f)) := by
  have m : ∀ d ∈ (List.range 241).map f, Tn 1 4 d ∧ Nd d := fun d hd => by
    obtain ⟨k, hk, rfl⟩ := List.mem_map.mp hd
    exact h k (List.mem_range.mp hk)
  refine ⟨(tn_tup (m := 241) (fun d hd => (m d hd).1) (by simp)).more (by omega) (by omega), nd_tup fun d hd => (m d hd).2, .inr ?_⟩
  simp [allB]
theorem pick {l : List D} {n : Nat} (hn : l.length = n) {r : Int} (h0 : 0 ≤ r) (h1 : r < n) : ∃ o, L2.atI l r = some o ∧ o ∈ l := by
  obtain ⟨k, rfl⟩ : ∃ k : Nat, r = k := ⟨r.toNat, by omega⟩
  have hk : k < l.length := by omega
  exact ⟨l[k], L2.atI_nat (List.getElem?_eq_getElem hk), List.getElem_mem hk⟩
end K16
namespace K16
open PySem Tk Fm
local macro_rules | `(tactic| simp! [$ls,*]) => `(tactic| simp [runP, runM, startE, startM, sSeq, seqK, sNil, sRet, sRetN, sExpr, sIf, sSet, setK, sAsg, sPar, parK, rsl, sAug, sFor, cTest, tAndF, tOrF, tNotF, tYesF, tChainF, chK, cAndV, cOrV, cNotV, cIfE, cBin, cUn, fin1, fin2, peek, cName, cC, cTup, cLst, aNil, aCons, cUse, use, bd, RV.out, RV.cell, cCall, callK, cCallM, callMK, cCallT, cCallK, pick, ownAt, own0, not0, retOf, gNm, gTp, gsCons, gsNil, gIx, iRg1, iRg2, iIt, iter1, cSl, oNone, oSome, fSl, fII, fII0, fAdd, fIAdd, fIx, fLen, fNeg, fAbs, fInt, fIsN, isNon, sTryM, handG, leave0, iEn, gTpL, fIsB, sRaiseF, cXf, iZs, cChainV, chV, sRaise, sTryAs, leaveX, noX, outX, cIsE, cDct0, fAll, fAny, blsOf, blOf, fTuple, cMeth, fAppend, cBot, sBot, fFld, cMe, cMake, makeK, putO, sFldSet, fIsC, fEqO, okR, tyName, $ls,*])
theorem headL {d : D} (h : Pot d) {B : List D} (hl : B.length ≤ 6) (hB : ∀ x ∈ B, Tn 1 4 x ∧ Nd x) : ∃ rv x d', P_L_head d [.tup B] = some (.ok rv d') ∧ (rv = .dat x ∨ rv = .fresh x) ∧ Sd ticketB B x ∧ Pot d' := by
  obtain ⟨r1, d1, e1, r10, r11, p1⟩ := digit (m := 8) h (by omega) (by decide +kernel)
  obtain ⟨r2, d2, e2, r20, r21, p2⟩ := digit (m := (B.length : Int) + 1) p1 (by omega) (sm (m := 1000) (by omega) (by omega))
  obtain ⟨i, rfl⟩ : ∃ k : Nat, r2 = k := ⟨r2.toNat, by omega⟩
  obtain ⟨r3, d3, e3, r30, r31, p3⟩ := digit (m := 18) p2 (by omega) (by decide +kernel)
  obtain ⟨o, ao, mo⟩ := pick (l := oddH) (n := 18) rfl r30 r31
  have q : ∀ n : Int, eqF false (.int r1) (.int n) = some (.dat (.bl (decide (r1 = n)))) := fun n => by
    rw [eqF_int, Bool.false_xor]
  have zl : szOk B.length = true := decide_eq_true (by omega)
  have z0 : szOk 0 = true := rfl
  have z1 : szOk 1 = true := rfl
  have z2 : szOk 2 = true := rfl
  have z3 : szOk 3 = true := rfl
  have z5 : szOk 5 = true := rfl
  have z13 : szOk 13 = true := rfl
  have z18 : szOk 18 = true := rfl
  have z241 : small62 241 = true := by decide
  unfold oddH sA at ao
  have key : ∀ {B' : List D} {x : D}, (P_L_head d [.tup B] = some (.ok (.dat x) d3) ∨ P_L_head d [.tup B] = some (.ok (.dat x) d2) ∨ P_L_head d [.tup B] = some (.ok (.fresh x) d2)) → Sd ticketB B x → ∃ rv x d', P_L_head d [.tup B] = some (.ok rv d') ∧ (rv = .dat x ∨ rv = .fresh x) ∧ Sd ticketB B x ∧ Pot d' := fun {B' x} hh hs => by
    rcases hh with hh | hh | hh
    · exact ⟨_, x, d3, hh, .inl rfl, hs, p3⟩
    · exact ⟨_, x, d2, hh, .inl rfl, hs, p2⟩
    · exact ⟨_, x, d2, hh, .inr rfl, hs, p2⟩
  by_cases w0 : r1 = 0
  · subst w0
    refine key (B' := B) (.inr (.inr ?_)) (sd_lst hl hB)
    simp! [P_L_head, g_L_head, zl, e1, e2, q, fListA, z18, z0, z1, z2, z3, z5, z13]
  by_cases w1 : r1 = 1
  · subst w1
    refine key (B' := B) (.inr (.inl ?_)) (sd_many (f := fun k => tD ("q", 1000 + (k : Int))) fun k hk => ?_)
    · have c := fun o4 => lc_map (vs := [5]) (g := ct_L_head_1) (t := cc_L_head_1) (f := ce_L_head_1) (e := [some (.own d2), some (.dat (.tup B)), some (.dat (.int 1)), some (.dat (.int i)), some (.own o4), none]) (fun k : Nat => D.int (0 + (k : Int)))
        (fun k => [some (.own d2), some (.dat (.tup B)), some (.dat (.int 1)), some (.dat (.int i)), some (.own o4), some (.dat (.int (0 + (k : Int))))]) (fun _ => true) (fun k => tD ("q", 1000 + (k : Int))) (List.range 241) (fun k hk => by
          refine ⟨by simp [ct_L_head_1, gNm, wipeE], rfl, by simp [cc_L_head_1, tYesF], fun _ => ?_, rfl⟩
          simp! [ce_L_head_1, z2, tD]) rfl (by simp)
      have ei : (List.range 241).map (fun k : Nat => D.int (0 + (k : Int))) = Tk.intsFrom 0 241 := rfl
      simp only [filter_yes, ei] at c
      generalize (List.range 241).map (fun k : Nat => tD ("q", 1000 + (k : Int))) = LQ at *
      simp! [P_L_head, g_L_head, zl, e1, e2, q, z0, z1, z2, z3, z5, z13, z18, z241, cLc, c]
    · have t : Tq (10 ^ 59) ("q", 1000 + (k : Int)) := ⟨show Lz (Str.ofString "q") from ⟨113, by decide +kernel, by decide, by decide⟩, by simp only; omega, by simp only; omega⟩
      refine ⟨(Fine.tn (t.fine (by decide +kernel)) (by simp [toPyD, toPysD, tD, tP])).more (by omega) (by omega), nd_tup fun d hd => ?_⟩
      simp only [List.mem_cons, List.not_mem_nil, or_false] at hd
      rcases hd with rfl | rfl
      · exact nd_str (by decide +kernel)
      · exact nd_int (by omega)
  by_cases w2 : r1 < 4
  · have : r1 = 2 ∨ r1 = 3 := by omega
    have s1 : szOk ((B.take i).length + 1) = true := decide_eq_true (by simp; omega)
    have c1 := cut_to B i
    have c2 := cut_from B i
    have c3 := cut_from B (i + 1)
    have s2 : szOk ((B.take i).length + 1 + (B.drop i).length) = true := decide_eq_true (by simp; omega)
    have s3 : szOk ((B.take i).length + 1 + (B.drop (i + 1)).length) = true := decide_eq_true (by simp; omega)
    have n3 : (i : Int) + 3 - 2 = (i : Int) + 1 := by omega
    rw [Int.natCast_add, Int.natCast_one] at c3
    have n2 : (i : Int) + 2 - 2 = (i : Int) := by omega
    rcases this with rfl | rfl
    · refine key (B' := B) (.inl ?_) (sd_odd hl hB (odd_ok (.inl mo)) (oddH_no mo) i i)
      simp only [List.append_assoc]
      generalize B.take i = A at *
      generalize B.drop i = C at *
      simp! [P_L_head, g_L_head, zl, e1, e2, q, z0, z1, z2, z3, z5, z13, z18, c1, c2, e3, ao, s1, s2, n2]
    · refine key (B' := B) (.inl ?_) (sd_odd hl hB (odd_ok (.inl mo)) (oddH_no mo) i (i + 1))
      simp only [List.append_assoc]
      generalize B.take i = A at *
      generalize B.drop (i + 1) = C at *
      simp! [P_L_head, g_L_head, zl, e1, e2, q, z0, z1, z2, z3, z5, z13, z18, c1, c3, e3, ao, s1, s3, n3]
  · refine key (B' := B) (.inr (.inl ?_)) (sd_self hl hB)
    simp! [P_L_head, g_L_head, zl, e1, e2, q, z0, z1, z2, z3, z5, z13, z18, w0, w1, w2]
theorem tailL {d : D} (h : Pot d) {B : List D} (hl : B.length ≤ 6) (hB : ∀ x ∈ B, Tn 1 4 x ∧ Nd x) : ∃ rv x d', P_L_tail d [.tup B] = some (.ok rv d') ∧ (rv = .dat x ∨ rv = .fresh x) ∧ Sd lineB B x ∧ Pot d' := by
  obtain ⟨r1, d1, e1, r10, r11, p1⟩ := digit (m := 8) h (by omega) (by decide +kernel)
  obtain ⟨r2, d2, e2, r20, r21, p2⟩ := digit (m := (B.length : Int) + 1) p1 (by omega) (sm (m := 1000) (by omega) (by omega))
  obtain ⟨i, rfl⟩ : ∃ k : Nat, r2 = k := ⟨r2.toNat, by omega⟩
  obtain ⟨r3, d3, e3, r30, r31, p3⟩ := digit (m := 18) p2 (by omega) (by decide +kernel)
  obtain ⟨o, ao, mo⟩ := pick (l := oddT) (n := 18) rfl r30 r31
  have q : ∀ n : Int, eqF false (.int r1) (.int n) = some (.dat (.bl (decide (r1 = n)))) := fun n => by
    rw [eqF_int, Bool.false_xor]
  have zl : szOk B.length = true := decide_eq_true (by omega)
  have z0 : szOk 0 = true := rfl
  have z1 : szOk 1 = true := rfl
  have z2 : szOk 2 = true := rfl
  have z3 : szOk 3 = true := rfl
  have z5 : szOk 5 = true := rfl
  have z11 : szOk 11 = true := rfl
  have z7 : szOk 7 = true := rfl
  have z4 : szOk 4 = true := rfl
  have z18 : szOk 18 = true := rfl
  have z241 : small62 241 = true := by decide
  unfold oddT sA at ao
  have key : ∀ {B' : List D} {x : D}, (P_L_tail d [.tup B] = some (.ok (.dat x) d3) ∨ P_L_tail d [.tup B] = some (.ok (.dat x) d2) ∨ P_L_tail d [.tup B] = some (.ok (.fresh x) d2)) → Sd lineB B x → ∃ rv x d', P_L_tail d [.tup B] = some (.ok rv d') ∧ (rv = .dat x ∨ rv = .fresh x) ∧ Sd lineB B x ∧ Pot d' := fun {B' x} hh hs => by
    rcases hh with hh | hh | hh
    · exact ⟨_, x, d3, hh, .inl rfl, hs, p3⟩
    · exact ⟨_, x, d2, hh, .inl rfl, hs, p2⟩
    · exact ⟨_, x, d2, hh, .inr rfl, hs, p2⟩
  by_cases w0 : r1 = 0
  · subst w0
    refine key (B' := B) (.inr (.inr ?_)) (sd_lst hl hB)
    simp! [P_L_tail, g_L_tail, zl, e1, e2, q, fListA, z18, z0, z1, z2, z3, z4, z7, z11]
  by_cases w1 : r1 = 1
  · subst w1
    refine key (B' := B) (.inr (.inl ?_)) (sd_many (f := fun k => lD ⟨"q", (k : Int), 300⟩) fun k hk => ?_)
    · have c := fun o4 => lc_map (vs := [5]) (g := ct_L_tail_1) (t := cc_L_tail_1) (f := ce_L_tail_1) (e := [some (.own d2), some (.dat (.tup B)), some (.dat (.int 1)), some (.dat (.int i)), some (.own o4), none]) (fun k : Nat => D.int (0 + (k : Int)))
        (fun k => [some (.own d2), some (.dat (.tup B)), some (.dat (.int 1)), some (.dat (.int i)), some (.own o4), some (.dat (.int (0 + (k : Int))))]) (fun _ => true) (fun k => lD ⟨"q", (k : Int), 300⟩) (List.range 241) (fun k hk => by
          refine ⟨by simp [ct_L_tail_1, gNm, wipeE], rfl, by simp [cc_L_tail_1, tYesF], fun _ => ?_, rfl⟩
          simp! [ce_L_tail_1, z3, lD]) rfl (by simp)
      have ei : (List.range 241).map (fun k : Nat => D.int (0 + (k : Int))) = Tk.intsFrom 0 241 := rfl
      simp only [filter_yes, ei] at c
      generalize (List.range 241).map (fun k : Nat => lD ⟨"q", (k : Int), 300⟩) = LQ at *
      simp! [P_L_tail, g_L_tail, zl, e1, e2, q, z0, z1, z2, z3, z4, z7, z11, z18, z241, cLc, c]
    · have t : Lq (10 ^ 59) ⟨"q", (k : Int), 300⟩ := ⟨show Lz (Str.ofString "q") from ⟨113, by decide +kernel, by decide, by decide⟩, by simp only; omega, by simp only; omega, by simp only; omega, by simp only; omega⟩
      refine ⟨(Fine.tn (t.fine (by decide +kernel)) (by simp [toPyD, toPysD, lD, lP])).more (by omega) (by omega), nd_tup fun d hd => ?_⟩
      simp only [List.mem_cons, List.not_mem_nil, or_false] at hd
      rcases hd with rfl | rfl | rfl
      · exact nd_str (by decide +kernel)
      · exact nd_int (by omega)
      · exact nd_int (by omega)
  by_cases w2 : r1 < 4
  · have : r1 = 2 ∨ r1 = 3 := by omega
    have s1 : szOk ((B.take i).length + 1) = true := decide_eq_true (by simp; omega)
    have c1 := cut_to B i
    have c2 := cut_from B i
    have c3 := cut_from B (i + 1)
    have s2 : szOk ((B.take i).length + 1 + (B.drop i).length) = true := decide_eq_true (by simp; omega)
    have s3 : szOk ((B.take i).length + 1 + (B.drop (i + 1)).length) = true := decide_eq_true (by simp; omega)
    have n3 : (i : Int) + 3 - 2 = (i : Int) + 1 := by omega
    rw [Int.natCast_add, Int.natCast_one] at c3
    have n2 : (i : Int) + 2 - 2 = (i : Int) := by omega
    rcases this with rfl | rfl
    · refine key (B' := B) (.inl ?_) (sd_odd hl hB (odd_ok (.inr mo)) (oddT_no mo) i i)
      simp only [List.append_assoc]
      generalize B.take i = A at *
      generalize B.drop i = C at *
      simp! [P_L_tail, g_L_tail, zl, e1, e2, q, z0, z1, z2, z3, z4, z7, z11, z18, c1, c2, e3, ao, s1, s2, n2]
    · refine key (B' := B) (.inl ?_) (sd_odd hl hB (odd_ok (.inr mo)) (oddT_no mo) i (i + 1))
      simp only [List.append_assoc]
      generalize B.take i = A at *
      generalize B.drop (i + 1) = C at *
      simp! [P_L_tail, g_L_tail, zl, e1, e2, q, z0, z1, z2, z3, z4, z7, z11, z18, c1, c3, e3, ao, s1, s3, n3]
  · refine key (B' := B) (.inr (.inl ?_)) (sd_self hl hB)
    simp! [P_L_tail, g_L_tail, zl, e1, e2, q, z0, z1, z2, z3, z4, z7, z11, z18, w0, w1, w2]
end K16
namespace K16
open PySem Tk Fm
local macro_rules | `(tactic| simp! [$ls,*]) => `(tactic| simp [runP, runM, startE, startM, sSeq, seqK, sNil, sRet, sRetN, sExpr, sIf, sSet, setK, sAsg, sPar, parK, rsl, sAug, sFor, cTest, tAndF, tOrF, tNotF, tYesF, tChainF, chK, cAndV, cOrV, cNotV, cIfE, cBin, cUn, fin1, fin2, peek, cName, cC, cTup, cLst, aNil, aCons, cUse, use, bd, RV.out, RV.cell, cCall, callK, cCallM, callMK, cCallT, cCallK, pick, ownAt, own0, not0, retOf, gNm, gTp, gsCons, gsNil, gIx, iRg1, iRg2, iIt, iter1, cSl, oNone, oSome, fSl, fII, fII0, fAdd, fIAdd, fIx, fLen, fNeg, fAbs, fInt, fIsN, isNon, sTryM, handG, leave0, iEn, gTpL, fIsB, sRaiseF, cXf, iZs, cChainV, chV, sRaise, sTryAs, leaveX, noX, outX, cIsE, cDct0, fAll, fAny, blsOf, blOf, fTuple, cMeth, fAppend, cBot, sBot, fFld, cMe, cMake, makeK, putO, sFldSet, fIsC, fEqO, okR, tyName, $ls,*])
theorem met {d : D} (h : Pot d) {x : Str} {n : Int} (n0 : 0 ≤ n) (n1 : n < 10 ^ 82) : ∃ (b s : Int) (d' : D), P_L_met d [.str x, .int n] = some (.ok (.dat (lD ⟨x, b, s⟩)) d') ∧ 0 ≤ b ∧ b ≤ n ∧ 1 ≤ s ∧ s ≤ 1000000 ∧ s ∣ n - b ∧ Pot d' := by
  have pick2 : ∀ {u v r : Int}, 0 ≤ r → r < 2 → ∃ w, L2.atI [D.int u, .int v] r = some (.int w) ∧ (w = u ∨ w = v) := fun {u v r} h0 h1 => by
    have : r = 0 ∨ r = 1 := by omega
    rcases this with rfl | rfl
    · exact ⟨u, rfl, .inl rfl⟩
    · exact ⟨v, rfl, .inr rfl⟩
  have hp : powOk 10 6 = true := powOk_lit (by decide) (by decide) (by decide)
  obtain ⟨r1, d1, e1, r10, r11, p1⟩ := digit (m := 2) h (by omega) (by decide +kernel)
  obtain ⟨w1, a1, hw1⟩ := pick2 (u := 9) (v := 1000000) r10 r11
  have w10 : 0 < w1 ∧ w1 ≤ 1000000 := by rcases hw1 with rfl | rfl <;> decide
  obtain ⟨r2, d2, e2, r20, r21, p2⟩ := digit (m := w1) p1 w10.1 (sm (m := 1000000) (by omega) (by omega))
  obtain ⟨r3, d3, e3, r30, r31, p3⟩ := digit (m := 2) p2 (by omega) (by decide +kernel)
  obtain ⟨w2, a2, hw2⟩ := pick2 (u := 1) (v := 1000) r30 r31
  have w20 : 0 < w2 ∧ w2 ≤ 1000 := by rcases hw2 with rfl | rfl <;> decide
  obtain ⟨r4, d4, e4, r40, r41, p4⟩ := digit (m := w2) p3 w20.1 (sm (m := 1000000) (by omega) (by omega))
  have z2 : szOk 2 = true := rfl
  have z3 : szOk 3 = true := rfl
  have m1 : mulOk r4 (1 + r2) = true := mulOk_of (sm (m := 1000) r40 (by omega)) (sm (m := 1000001) (by omega) (by omega))
  have dv : 0 < 1 + r2 := by omega
  have b0 : 0 ≤ r4 * (1 + r2) := Int.mul_nonneg r40 (by omega)
  by_cases hb : r4 * (1 + r2) ≤ n
  · refine ⟨n - r4 * (1 + r2), 1 + r2, d4, ?_, by omega, by omega, by omega, by omega, ?_, p4⟩
    · generalize hbb : r4 * (1 + r2) = bb at *
      simp! [P_L_met, g_L_met, e1, hp, a1, e2, e3, a2, e4, m1, hbb, hb, z2, z3, lD]
    · rw [show n - (n - r4 * (1 + r2)) = r4 * (1 + r2) by omega]
      exact Int.dvd_mul_left _ _
  · refine ⟨n % (1 + r2), 1 + r2, d4, ?_, Int.emod_nonneg _ (by omega), (by
    have h1 := Int.mul_nonneg (show (0 : Int) ≤ 1 + r2 by omega) (Int.ediv_nonneg n0 (show (0 : Int) ≤ 1 + r2 by omega))
    rw [Int.emod_def]
    omega), by omega, by omega, Int.dvd_self_sub_emod, p4⟩
    generalize hbb : r4 * (1 + r2) = bb at *
    simp! [P_L_met, g_L_met, e1, hp, a1, e2, e3, a2, e4, m1, hbb, hb, z2, z3, dv, lD]
structure Twc (H : List Tt) (T : List Ln) (H' : List Tt) (T' : List Ln) : Prop where
  h : ∀ t ∈ H', Tq (10 ^ 83) t
  t : ∀ a ∈ T', Lq (10 ^ 83) a
  lh : H'.length ≤ 5
  lt : T'.length ≤ 6
  or : (H' = H ∧ T' = T) ∨ (¬ Ok H' T' ∧ (H'.length ≠ H.length ∨ T'.length ≠ T.length))
theorem twice {d : D} (h : Pot d) {H : List Tt} {T : List Ln} (hH : ∀ t ∈ H, Tq (10 ^ 60) t) (hT : ∀ a ∈ T, Lq (10 ^ 60) a) (lH : H.length ≤ 4) (lT : T.length ≤ 5) :
    ∃ (H' : List Tt) (T' : List Ln) (d' : D), P_L_twice d [.tup (H.map tD), .tup (T.map lD)] = some (.ok (.dat (fD H' T')) d') ∧ Twc H T H' T' ∧ Pot d' := by
  have hH' : ∀ t ∈ H, Tq (10 ^ 83) t := fun t ht => by
    obtain ⟨a, b, c⟩ := hH t ht
    exact ⟨a, b, by omega⟩
  have hT' : ∀ t ∈ T, Lq (10 ^ 83) t := fun t ht => by
    obtain ⟨a, b, c, d, e⟩ := hT t ht
    exact ⟨a, b, by omega, d, by omega⟩
  have mx : (if (1 : Int) < (T.length : Int) then (T.length : Int) else 1) = ((max 1 T.length : Nat) : Int) := by split <;> omega
  obtain ⟨r1, d1, e1, r10, r11, p1⟩ := digit (m := 10) h (by omega) (by decide +kernel)
  obtain ⟨r2, d2, e2, r20, r21, p2⟩ := digit (m := ((max 1 T.length : Nat) : Int)) p1 (by omega) (sm (m := 1000) (by omega) (by omega))
  obtain ⟨i, rfl⟩ : ∃ k : Nat, r2 = k := ⟨r2.toNat, by omega⟩
  have q : ∀ n : Int, eqF false (.int r1) (.int n) = some (.dat (.bl (decide (r1 = n)))) := fun n => by
    rw [eqF_int, Bool.false_xor]
  have zl : szOk T.length = true := decide_eq_true (by omega)
  have zh : szOk H.length = true := decide_eq_true (by omega)
  have z0 : szOk 0 = true := rfl
  have z1 : szOk 1 = true := rfl
  have z2 : szOk 2 = true := rfl
  have z3 : szOk 3 = true := rfl
  have en := eq_nilT true hT (by decide +kernel)
  have eh := eq_nilH true hH (by decide +kernel)
  have same : P_L_twice d [.tup (H.map tD), .tup (T.map lD)] = some (.ok (.dat (fD H T)) d2) → ∃ (H' : List Tt) (T' : List Ln) (d' : D), P_L_twice d [.tup (H.map tD), .tup (T.map lD)] = some (.ok (.dat (fD H' T')) d') ∧ Twc H T H' T' ∧ Pot d' := fun e => ⟨H, T, d2, e, ⟨hH', hT', by omega, by omega, .inl ⟨rfl, rfl⟩⟩, p2⟩
  by_cases c0 : r1 = 0 ∧ H ≠ []
  · obtain ⟨rfl, hn⟩ := c0
    have hE : H.isEmpty = false := by
      cases H with
      | nil => exact absurd rfl hn
      | cons => rfl
    have hpos := List.length_pos_iff.mpr hn
    rw [hE] at eh
    obtain ⟨r3, d3, e3, r30, r31, p3⟩ := digit (m := (H.length : Int)) p2 (by omega) (sm (m := 1000) (by omega) (by omega))
    obtain ⟨j, rfl⟩ : ∃ k : Nat, r3 = k := ⟨r3.toNat, by omega⟩
    have hj : j < H.length := by omega
    have c1 : cutG (H.map tD) (some (j : Int)) none = (H.drop j).map tD := by rw [cut_from, List.map_drop]
    have c2 : cutG ((H.drop j).map tD) none (some 1) = [tD H[j]] := by
      have := cut_to ((H.drop j).map tD) 1
      rw [show ((1 : Nat) : Int) = 1 from rfl] at this
      rw [this, List.drop_eq_getElem_cons hj]
      rfl
    have s1 : szOk (H.length + 1) = true := decide_eq_true (by omega)
    refine ⟨H ++ [H[j]], T, d3, ?_, ⟨fun t ht => ?_, hT', by simp; omega, by omega, .inr ⟨fun o => ?_, .inl (by simp)⟩⟩, p3⟩
    · simp only [fD, List.map_append, List.map_cons, List.map_nil]
      generalize (H.drop j).map tD = A at *
      generalize tD H[j] = t0 at *
      have lmT : (T.map lD).length = T.length := List.length_map _
      generalize T.map lD = B at *
      have lm : (H.map tD).length = H.length := List.length_map _
      generalize H.map tD = C at *
      simp! [P_L_twice, g_L_twice, zl, zh, mx, e1, e2, q, z0, z1, z2, eh, lm, lmT, e3, c1, c2, s1]
    · rcases List.mem_append.mp ht with z | z
      · exact hH' t z
      · rw [List.mem_singleton] at z
        subst z
        exact hH' _ (List.getElem_mem hj)
    · have := o.nd
      rw [List.nodup_append] at this
      exact this.2.2 _ (List.getElem_mem hj) _ (by simp) rfl
  by_cases c1 : r1 < 4 ∧ T ≠ []
  · obtain ⟨h4, hn⟩ := c1
    have hE : T.isEmpty = false := by
      cases T with
      | nil => exact absurd rfl hn
      | cons => rfl
    have hpos := List.length_pos_iff.mpr hn
    rw [hE] at en
    have hi : i < T.length := by omega
    have ai : L2.atI (T.map lD) (i : Int) = some (lD T[i]) := at_map_nat (List.getElem?_eq_getElem hi)
    have ha := hT T[i] (List.getElem_mem hi)
    have ha' := hT' T[i] (List.getElem_mem hi)
    generalize hTa : T[i] = a at *
    have hm : a ∈ T := hTa ▸ List.getElem_mem hi
    obtain ⟨r3, d3, e3, r30, r31, p3⟩ := digit (m := 2) p2 (by omega) (by decide +kernel)
    obtain ⟨w, aw, hw⟩ : ∃ w : Int, L2.atI [D.int 9, .int 100000000000000000000] r3 = some (.int w) ∧ 0 < w ∧ w ≤ 10 ^ 20 := by
      have : r3 = 0 ∨ r3 = 1 := by omega
      rcases this with rfl | rfl
      · exact ⟨9, rfl, by decide⟩
      · exact ⟨100000000000000000000, rfl, by decide⟩
    have hp : powOk 10 20 = true := powOk_lit (by decide) (by decide) (by decide)
    obtain ⟨r4, d4, e4, r40, r41, p4⟩ := digit (m := w) p3 hw.1 (sm (m := 10 ^ 20) (by omega) (by omega))
    have s0 := ha.s0
    have s1 := ha.s1
    have f0 := ha.f0
    have f1 := ha.f1
    have m1 : mulOk r4 a.s = true := mulOk_of (sm (m := 10 ^ 20) r40 (by omega)) (sm190 (N := 10 ^ 60) (by omega) (by omega) (by decide +kernel))
    have n0 : 0 ≤ r4 * a.s := Int.mul_nonneg r40 (by omega)
    have n1 : r4 * a.s ≤ 10 ^ 20 * 10 ^ 60 := Int.mul_le_mul (by omega) (by omega) (by omega) (by decide)
    have sH : szOk (1 + H.length) = true := decide_eq_true (by omega)
    have sT : szOk (1 + T.length) = true := decide_eq_true (by omega)
    have sT' : szOk (T.length + 1) = true := decide_eq_true (by omega)
    have nh : ¬ (r1 = 0 ∧ H.isEmpty = false) := fun z => c0 ⟨z.1, fun z2 => by rw [z2] at z; simp at z⟩
    have hd : (r1 = 0 ∧ H = []) ∨ r1 = 1 ∨ r1 = 2 ∨ r1 = 3 := by
      have : r1 = 0 ∨ r1 = 1 ∨ r1 = 2 ∨ r1 = 3 := by omega
      rcases this with z | z | z | z
      · exact .inl ⟨z, Classical.byContradiction fun z2 => c0 ⟨z, z2⟩⟩
      · exact .inr (.inl z)
      · exact .inr (.inr (.inl z))
      · exact .inr (.inr (.inr z))
    have c3 : cutG (T.map lD) (some (i : Int)) (some ((i : Int) + 1)) = [lD a] := by
      rw [cut_one, List.getElem?_map, List.getElem?_eq_getElem hi, hTa]
      rfl
    have two : ¬ Ok H (T ++ [a]) := fun o => by
      have := o.ap
      rw [List.pairwise_append] at this
      have ap := this.2.2 a hm a (by simp)
      exact ap rfl (by rw [Int.sub_self]; exact Int.dvd_zero _)
    obtain ⟨b, s, d5, e5, b0, b1, s2, s3, dvd, p5⟩ := met p4 (x := a.l) (n := a.f + r4 * a.s) (by omega) (by omega)
    have three : ¬ Ok H (⟨a.l, b, s⟩ :: T) := fun o => by
      have := (List.pairwise_cons.mp o.ap).1 a hm
      exact this.two (t := (a.l, a.f + r4 * a.s)) ⟨rfl, b1, dvd⟩ ⟨rfl, by simp only; omega, ⟨r4, by simp only; rw [Int.mul_comm]; omega⟩⟩
    have one : ¬ Ok ((a.l, a.f + r4 * a.s) :: H) T := fun o => o.no _ List.mem_cons_self a hm ⟨rfl, by simp only; omega, ⟨r4, by simp only; rw [Int.mul_comm]; omega⟩⟩
    generalize hnn : a.f + r4 * a.s = nn at *
    have lq : Lq (10 ^ 83) (⟨a.l, b, s⟩ : Ln) := ⟨ha.l, b0, by simp only; omega, by simp only; omega, by simp only; omega⟩
    have lm : (T.map lD).length = T.length := List.length_map _
    have lmh : (H.map tD).length = H.length := List.length_map _
    rcases hd with ⟨rfl, rfl⟩ | rfl | rfl | rfl
    · refine ⟨[], ⟨a.l, b, s⟩ :: T, d5, ?_, ⟨nofun, fun y hy => ?_, by simp, by simp; omega, .inr ⟨three, .inr (by simp)⟩⟩, p5⟩
      · simp only [fD, List.map_cons]
        generalize T.map lD = B at *
        simp at eh
        simp! [P_L_twice, g_L_twice, zl, zh, mx, e1, e2, q, z0, z1, z2, z3, eh, en, lm, ai, hp, e3, aw, e4, m1, hnn, e5, sT]
      · rcases List.mem_cons.mp hy with rfl | z
        · exact lq
        · exact hT' y z
    · refine ⟨(a.l, nn) :: H, T, d4, ?_, ⟨fun t ht => ?_, hT', by simp; omega, by omega, .inr ⟨one, .inl (by simp)⟩⟩, p4⟩
      · simp only [fD, List.map_cons]
        generalize T.map lD = B at *
        generalize H.map tD = C at *
        simp! [P_L_twice, g_L_twice, zl, zh, mx, e1, e2, q, z0, z1, z2, z3, eh, en, lm, lmh, ai, hp, e3, aw, e4, m1, hnn, sH]
      · rcases List.mem_cons.mp ht with rfl | z
        · exact ⟨ha.l, by simp only; omega, by simp only; omega⟩
        · exact hH' t z
    · refine ⟨H, T ++ [a], d4, ?_, ⟨hH', fun y hy => ?_, by omega, by simp; omega, .inr ⟨two, .inr (by simp)⟩⟩, p4⟩
      · simp only [fD, List.map_append, List.map_cons, List.map_nil]
        generalize T.map lD = B at *
        generalize H.map tD = C at *
        simp! [P_L_twice, g_L_twice, zl, zh, mx, e1, e2, q, z0, z1, z2, z3, eh, en, lm, lmh, ai, hp, e3, aw, e4, m1, hnn, c3, sT']
      · rcases List.mem_append.mp hy with z | z
        · exact hT' y z
        · rw [List.mem_singleton] at z
          subst z
          exact ha'
    · refine ⟨H, ⟨a.l, b, s⟩ :: T, d5, ?_, ⟨hH', fun y hy => ?_, by omega, by simp; omega, .inr ⟨three, .inr (by simp)⟩⟩, p5⟩
      · simp only [fD, List.map_cons]
        generalize T.map lD = B at *
        generalize H.map tD = C at *
        simp! [P_L_twice, g_L_twice, zl, zh, mx, e1, e2, q, z0, z1, z2, z3, eh, en, lm, lmh, ai, hp, e3, aw, e4, m1, hnn, e5, sT]
      · rcases List.mem_cons.mp hy with rfl | z
        · exact lq
        · exact hT' y z
  · refine same ?_
    simp only [fD]
    have k0 : (decide (r1 = 0) && !H.isEmpty) = false := by
      by_cases z : r1 = 0
      · cases H with
        | nil => simp
        | cons => exact absurd ⟨z, by simp⟩ c0
      · simp [z]
    have k1 : (decide (r1 < 4) && !T.isEmpty) = false := by
      by_cases z : r1 < 4
      · cases T with
        | nil => simp
        | cons => exact absurd ⟨z, by simp⟩ c1
      · simp [z]
    rw [Bool.true_xor] at en eh
    generalize H.isEmpty = u at *
    generalize T.isEmpty = v at *
    have lm : (T.map lD).length = T.length := List.length_map _
    generalize T.map lD = B at *
    generalize H.map tD = C at *
    by_cases z : r1 = 0
    · have : u = true := by simpa [z] using k0
      subst this
      have : v = true := by simpa [z] using k1
      subst this
      subst z
      simp! [P_L_twice, g_L_twice, zl, mx, e1, e2, q, z0, z2, eh, en, lm]
    · by_cases z4 : r1 < 4
      · have : v = true := by simpa [z4] using k1
        subst this
        simp! [P_L_twice, g_L_twice, zl, mx, e1, e2, q, z0, z2, eh, en, lm, z, z4]
      · simp! [P_L_twice, g_L_twice, zl, mx, e1, e2, q, z0, z2, eh, en, lm, z, z4]
end K16
namespace K16
open PySem Tk Fm
local macro_rules | `(tactic| simp! [$ls,*]) => `(tactic| simp [runP, runM, startE, startM, sSeq, seqK, sNil, sRet, sRetN, sExpr, sIf, sSet, setK, sAsg, sPar, parK, rsl, sAug, sFor, cTest, tAndF, tOrF, tNotF, tYesF, tChainF, chK, cAndV, cOrV, cNotV, cIfE, cBin, cUn, fin1, fin2, peek, cName, cC, cTup, cLst, aNil, aCons, cUse, use, bd, RV.out, RV.cell, cCall, callK, cCallM, callMK, cCallT, cCallK, pick, ownAt, own0, not0, retOf, gNm, gTp, gsCons, gsNil, gIx, iRg1, iRg2, iIt, iter1, cSl, oNone, oSome, fSl, fII, fII0, fAdd, fIAdd, fIx, fLen, fNeg, fAbs, fInt, fIsN, isNon, sTryM, handG, leave0, iEn, gTpL, fIsB, sRaiseF, cXf, iZs, cChainV, chV, sRaise, sTryAs, leaveX, noX, outX, cIsE, cDct0, fAll, fAny, blsOf, blOf, fTuple, cMeth, fAppend, cBot, sBot, fFld, cMe, cMake, makeK, putO, sFldSet, fIsC, fEqO, okR, tyName, $ls,*])
def things (x y : D) : List D := [.lst [x, y], .tup [x], .tup [x, y, .tup []], .non, .tup [], .str "ab", .dct [.inl 0, .inl 1] [x, y], .int 7, .tup [x, y, x, y]]
theorem wholeL {d : D} (h : Pot d) (x y : D) : ∃ (th d' : D), P_L_whole d [x, y] = some (.ok (.dat th) d') ∧ (th = .tup [x, y] ∨ th ∈ things x y) ∧ Pot d' := by
  obtain ⟨r1, d1, e1, r10, r11, p1⟩ := digit (m := 6) h (by omega) (by decide +kernel)
  obtain ⟨r2, d2, e2, r20, r21, p2⟩ := digit (m := 9) p1 (by omega) (by decide +kernel)
  obtain ⟨th, at_, hm⟩ := pick (l := things x y) (n := 9) rfl r20 r21
  have q : ∀ n : Int, eqF false (.int r1) (.int n) = some (.dat (.bl (decide (r1 = n)))) := fun n => by
    rw [eqF_int, Bool.false_xor]
  have z0 : szOk 0 = true := rfl
  have z1 : szOk 1 = true := rfl
  have z2 : szOk 2 = true := rfl
  have z3 : szOk 3 = true := rfl
  have z4 : szOk 4 = true := rfl
  have z9 : szOk 9 = true := rfl
  by_cases w0 : r1 = 0
  · subst w0
    refine ⟨th, d2, ?_, .inr hm, p2⟩
    unfold things at at_
    simp! [P_L_whole, g_L_whole, cDct2, e1, e2, q, z0, z1, z2, z3, z4, z9, at_]
  · refine ⟨.tup [x, y], d1, ?_, .inl rfl, p1⟩
    simp! [P_L_whole, g_L_whole, cDct2, e1, e2, q, z0, z1, z2, z3, z4, z9, w0]
/-- the whole beside what is made of it -/
theorem seen {bx by' : D → Bool} {B C : List D} {x y th : D} (sx : Sd bx B x) (sy : Sd by' C y) (h : th = .tup [x, y] ∨ th ∈ things x y) : ∃ u v, fReprE th = some (.dat (.str u)) ∧ fReprE (.tup [x, y]) = some (.dat (.str v)) ∧ (u = v ↔ th = .tup [x, y]) := by
  have m : ∀ {l : List D}, (∀ d ∈ l, Tn 2 1205 d ∧ Nd d) → l.length ≤ 4 → Rp (.tup l) ∧ Rp (.lst l) := fun h hl => ⟨rp_of (tn_tup (fun d hd => (h d hd).1) hl) (nd_tup fun d hd => (h d hd).2), rp_of (tn_lst (fun d hd => (h d hd).1) hl) (nd_lst fun d hd => (h d hd).2)⟩
  have hx : Tn 2 1205 x ∧ Nd x := ⟨sx.tn, sx.nd⟩
  have hy : Tn 2 1205 y ∧ Nd y := ⟨sy.tn, sy.nd⟩
  have he : Tn 2 1205 (.tup []) ∧ Nd (.tup []) := ⟨(tn_tup (k := 0) (n := 0) (m := 0) (by simp) (by simp)).more (by omega) (by omega), nd_tup (by simp)⟩
  have w := (m (l := [x, y]) (by simp only [List.mem_cons, List.not_mem_nil, or_false, forall_eq_or_imp, forall_eq]; exact ⟨hx, hy⟩) (by simp))
  have fin : ∀ {t : D}, Rp t → ∃ u v, fReprE t = some (.dat (.str u)) ∧ fReprE (.tup [x, y]) = some (.dat (.str v)) ∧ (u = v ↔ t = .tup [x, y]) := fun ht => rp_ne ht w.1
  rcases h with rfl | h
  · exact fin w.1
  simp only [things, List.mem_cons, List.not_mem_nil, or_false] at h
  rcases h with rfl | rfl | rfl | rfl | rfl | rfl | rfl | rfl | rfl
  · exact fin w.2
  · exact fin (m (l := [x]) (by simp only [List.mem_cons, List.not_mem_nil, or_false, forall_eq]; exact hx) (by simp)).1
  · exact fin (m (l := [x, y, .tup []]) (by simp only [List.mem_cons, List.not_mem_nil, or_false, forall_eq_or_imp, forall_eq]; exact ⟨hx, hy, he⟩) (by simp)).1
  · exact fin (rp_of (k := 0) (n := 0) tn_non nd_non)
  · exact fin (rp_of (k := 2) (n := 1205) he.1 he.2)
  · exact fin (rp_of (k := 0) (n := 2) (tn_str ⟨by decide +kernel, by decide +kernel, by decide +kernel⟩ (by decide +kernel)) (nd_str (by decide +kernel)))
  · obtain ⟨u, v, e1, e2, e3⟩ := rp_two (i := 0) (j := 1) (by decide +kernel) (by decide +kernel) hx.1 hy.1 hx.2 hy.2 w.1
    exact ⟨u, v, e1, e2, ⟨fun z => absurd z e3, fun z => by cases z⟩⟩
  · exact fin (rp_of (k := 0) (n := 0) (tn_int (by decide +kernel)) (nd_int (by decide +kernel)))
  · exact fin (m (l := [x, y, x, y]) (by simp only [List.mem_cons, List.not_mem_nil, or_false, forall_eq_or_imp, forall_eq]; exact ⟨hx, hy, hx, hy⟩) (by simp)).1
/-- a side beside itself bent -/
theorem side {b : D → Bool} {B : List D} {x : D} (s : Sd b B x) (hl : B.length ≤ 6) (hB : ∀ x ∈ B, Tn 1 4 x ∧ Nd x) : ∃ u v, fReprE (.tup B) = some (.dat (.str u)) ∧ fReprE x = some (.dat (.str v)) ∧ (u = v ↔ x = .tup B) := by
  have r1 := rp_of (sd_self (b := b) hl hB).tn (sd_self (b := b) hl hB).nd
  have r2 := rp_of s.tn s.nd
  obtain ⟨u, v, e1, e2, e3⟩ := rp_ne r1 r2
  exact ⟨u, v, e1, e2, e3.trans eq_comm⟩
theorem not_two {x y th : D} (h : th ∈ things x y) : Pl th ∧ ∀ l, th = .tup l → l.length ≠ 2 := by
  simp only [things, List.mem_cons, List.not_mem_nil, or_false] at h
  rcases h with rfl | rfl | rfl | rfl | rfl | rfl | rfl | rfl | rfl
  all_goals refine ⟨?_, fun l e => ?_⟩
  all_goals first
    | exact trivial
    | (cases e; done)
    | (cases e; simp; done)
    | (show _ ≤ 1000000; decide +kernel)
theorem small_t {N : Nat} {H : List Tt} (h : ∀ t ∈ H, Tq N t) (hN : N ≤ 10 ^ 190) : ∀ x ∈ H.map tD, Tn 1 4 x ∧ Nd x := fun x hx => by
  obtain ⟨t, ht, rfl⟩ := List.mem_map.mp hx
  have q := h t ht
  refine ⟨(Fine.tn (q.fine hN) (by simp [toPyD, toPysD, tD, tP])).more (by omega) (by omega), nd_tup fun d hd => ?_⟩
  simp only [List.mem_cons, List.not_mem_nil, or_false] at hd
  obtain ⟨l, a, b⟩ := q
  rcases hd with rfl | rfl
  · obtain ⟨c, e, h1, h2⟩ := l
    rw [e]
    exact nd_str (by simp [alnum, h1, h2])
  · exact nd_int (by omega)
theorem small_l {N : Nat} {H : List Ln} (h : ∀ t ∈ H, Lq N t) (hN : N ≤ 10 ^ 190) : ∀ x ∈ H.map lD, Tn 1 4 x ∧ Nd x := fun x hx => by
  obtain ⟨t, ht, rfl⟩ := List.mem_map.mp hx
  have q := h t ht
  refine ⟨(Fine.tn (q.fine hN) (by simp [toPyD, toPysD, lD, lP])).more (by omega) (by omega), nd_tup fun d hd => ?_⟩
  simp only [List.mem_cons, List.not_mem_nil, or_false] at hd
  obtain ⟨l, a, b, a2, b2⟩ := q
  rcases hd with rfl | rfl | rfl
  · obtain ⟨c, e, h1, h2⟩ := l
    rw [e]
    exact nd_str (by simp [alnum, h1, h2])
  · exact nd_int (by omega)
  · exact nd_int (by omega)
/-- what is told first -/
theorem dueL {H : List Tt} {T : List Ln} {H' : List Tt} {T' : List Ln} (o : Ok H T) (w : Twc H T H' T') {x y th : D} (sx : Sd ticketB (H'.map tD) x) (sy : Sd lineB (T'.map lD) y) (h : th = .tup [x, y] ∨ th ∈ things x y) :
    ∃ e : D, P_L_due [th, .tup [x, y], fD H' T', .bl (!decide (H' = H ∧ T' = T))] = some (.ok (.dat e)) ∧ P_fault_of [th] = some (.ok (.dat e)) ∧ (e = .non → th = fD H' T' ∧ Ok H' T') ∧ (e = .non ∨ ∃ s, e = .str s) := by
  have N190 : 10 ^ 83 ≤ 10 ^ 190 := by decide +kernel
  have h1 := small_t w.h N190
  have h2 := small_l w.t N190
  have l1 : (H'.map tD).length ≤ 6 := by rw [List.length_map]; have := w.lh; omega
  have l2 : (T'.map lD).length ≤ 6 := by rw [List.length_map]; exact w.lt
  obtain ⟨u1, v1, a1, b1, c1⟩ := seen sx sy h
  obtain ⟨u2, v2, a2, b2, c2⟩ := side sx l1 h1
  obtain ⟨u3, v3, a3, b3, c3⟩ := side sy l2 h2
  have at0 : ∀ x y : D, L2.atI [x, y] 0 = some x := fun _ _ => rfl
  have at1 : ∀ x y : D, L2.atI [x, y] 1 = some y := fun _ _ => rfl
  have q1 := eqF_strs true u1 v1
  have q2 := eqF_strs true u2 v2
  have q3 := eqF_strs true u3 v3
  rw [Bool.true_xor] at q1 q2 q3
  by_cases t1 : th = .tup [x, y]
  · subst t1
    rw [decide_eq_true (c1.mpr rfl)] at q1
    have ee1 := c1.mpr rfl
    subst ee1
    by_cases t2 : x = .tup (H'.map tD)
    · rw [decide_eq_true (c2.mpr t2)] at q2
      have ee2 := c2.mpr t2
      subst ee2
      by_cases t3 : y = .tup (T'.map lD)
      · rw [decide_eq_true (c3.mpr t3)] at q3
        have ee3 := c3.mpr t3
        subst ee3
        subst t2 t3
        obtain ⟨f1, f2⟩ := faultRest w.h w.t N190 (by have := w.lh; omega) (by have := w.lt; omega)
        rcases w.or with ⟨e1, e2⟩ | ⟨no, len⟩
        · have dd : decide (H' = H ∧ T' = T) = true := decide_eq_true ⟨e1, e2⟩
          rw [dd]
          subst e1 e2
          refine ⟨.non, ?_, f1 o, fun _ => ⟨rfl, o⟩, .inl rfl⟩
          simp only [fD]
          generalize H'.map tD = A at *
          generalize T'.map lD = B at *
          simp! [P_L_due, g_L_due, a1, b1, q1, at0, at1, a2, b2, q2, a3, b3, q3]
        · have dd : decide (H' = H ∧ T' = T) = false := decide_eq_false (by rintro ⟨rfl, rfl⟩; simp at len)
          rw [dd]
          refine ⟨.str "twice", ?_, f2 no, nofun, .inr ⟨_, rfl⟩⟩
          simp only [fD]
          generalize H'.map tD = A at *
          generalize T'.map lD = B at *
          simp! [P_L_due, g_L_due, a1, b1, q1, at0, at1, a2, b2, q2, a3, b3, q3]
      · have n3 : decide (u3 = v3) = false := decide_eq_false fun z => t3 (c3.mp z)
        rw [n3] at q3
        have bad : allB lineB y = false := sy.or.resolve_left t3
        subst t2
        refine ⟨.str "tail", ?_, faultTail (heads_pl w.h) sy.tn.plss (heads_is w.h (by have := w.lh; omega)) bad, nofun, .inr ⟨_, rfl⟩⟩
        simp only [fD]
        generalize H'.map tD = A at *
        generalize T'.map lD = B at *
        generalize decide (H' = H ∧ T' = T) = dd at *
        simp! [P_L_due, g_L_due, a1, b1, q1, at0, at1, a2, b2, q2, a3, b3, q3]
    · have n2 : decide (u2 = v2) = false := decide_eq_false fun z => t2 (c2.mp z)
      rw [n2] at q2
      have bad : allB ticketB x = false := sx.or.resolve_left t2
      refine ⟨.str "head", ?_, faultHead sx.tn.plss bad, nofun, .inr ⟨_, rfl⟩⟩
      simp only [fD]
      generalize H'.map tD = A at *
      generalize T'.map lD = B at *
      generalize decide (H' = H ∧ T' = T) = dd at *
      simp! [P_L_due, g_L_due, a1, b1, q1, at0, at1, a2, b2, q2]
  · have n1 : decide (u1 = v1) = false := decide_eq_false fun z => t1 (c1.mp z)
    rw [n1] at q1
    obtain ⟨p1, p2⟩ := not_two (h.resolve_left t1)
    refine ⟨.str "form", ?_, faultForm p1 p2, nofun, .inr ⟨_, rfl⟩⟩
    simp only [fD]
    generalize H'.map tD = A at *
    generalize T'.map lD = B at *
    generalize decide (H' = H ∧ T' = T) = dd at *
    simp! [P_L_due, g_L_due, a1, b1, q1]
end K16
namespace K16
open PySem Tk Fm
local macro_rules | `(tactic| simp! [$ls,*]) => `(tactic| simp [runP, runM, startE, startM, sSeq, seqK, sNil, sRet, sRetN, sExpr, sIf, sSet, setK, sAsg, sPar, parK, rsl, sAug, sFor, cTest, tAndF, tOrF, tNotF, tYesF, tChainF, chK, cAndV, cOrV, cNotV, cIfE, cBin, cUn, fin1, fin2, peek, cName, cC, cTup, cLst, aNil, aCons, cUse, use, bd, RV.out, RV.cell, cCall, callK, cCallM, callMK, cCallT, cCallK, pick, ownAt, own0, not0, retOf, gNm, gTp, gsCons, gsNil, gIx, iRg1, iRg2, iIt, iter1, cSl, oNone, oSome, fSl, fII, fII0, fAdd, fIAdd, fIx, fLen, fNeg, fAbs, fInt, fIsN, isNon, sTryM, handG, leave0, iEn, gTpL, fIsB, sRaiseF, cXf, iZs, cChainV, chV, sRaise, sTryAs, leaveX, noX, outX, cIsE, cDct0, fAll, fAny, blsOf, blOf, fTuple, cMeth, fAppend, cBot, sBot, fFld, cMe, cMake, makeK, putO, sFldSet, fIsC, fEqO, okR, tyName, $ls,*])
/-- asked for a ticket at a place, or merely wanted -/
theorem told {th e p : D} (hf : P_fault_of [th] = some (.ok (.dat e))) (he : e = .non ∨ ∃ s, e = .str s) (hok : e = .non → ∃ H T, th = fD H T ∧ Form (10 ^ 83) H T) (hp : p = .non ∨ p = .str "0" ∨ ∃ i : Int, p = .int i ∧ i < 10 ^ 190) : P_L_told [th, p] = some (.ok (.dat e)) := by
  have np : p ≠ .non → fIsN false p .non = some (.dat (.bl false)) := fun h => by
    rcases hp with rfl | rfl | ⟨i, rfl, _⟩
    · exact absurd rfl h
    · rfl
    · rfl
  rcases he with rfl | ⟨s, rfl⟩
  · have w1 : P_want_form [th] = some (.ok (.dat .non)) := by simp! [P_want_form, g_want_form, hf]
    obtain ⟨H, T, rfl, F⟩ := hok rfl
    have N190 : 10 ^ 83 ≤ 10 ^ 190 := by decide +kernel
    by_cases hn : p = .non
    · subst hn
      simp only [fD] at w1 ⊢
      generalize H.map tD = A at *
      generalize T.map lD = B at *
      simp! [P_L_told, g_L_told, tb_L_told_1, ts_L_told_1, ts_L_told_2, w1]
    · have r : (∃ t, P_ticket_at [fD H T, p] = some (.ok (.dat (tD t)))) ∨ P_ticket_at [fD H T, p] = some (.ex ⟨xNoPlace, []⟩) := by
        rcases hp with rfl | rfl | ⟨i, rfl, hi⟩
        · exact absurd rfl hn
        · exact .inr (ticketNo F N190 (by show _ ≤ 1000000; decide +kernel) (.inl rfl))
        · by_cases h0 : 0 ≤ i
          · obtain ⟨k, rfl⟩ : ∃ k : Nat, i = k := ⟨i.toNat, by omega⟩
            by_cases hh : T ≠ [] ∨ k < H.length
            · obtain ⟨t, ht⟩ := stand_some (H := H) (T := T) (p := k) hh
              exact .inl ⟨t, ticketAt F N190 (by omega) ht⟩
            · refine .inr (ticketNo F N190 trivial (.inr ⟨Classical.byContradiction fun z => hh (.inl z), k, rfl, ?_⟩))
              exact Nat.le_of_not_lt fun z => hh (.inr z)
          · exact .inr (ticketNo F N190 trivial (.inl (decide_eq_false h0)))
      have n := np hn
      simp only [fD] at r ⊢
      generalize H.map tD = A at *
      generalize T.map lD = B at *
      rcases r with ⟨t, r⟩ | r
      · generalize tD t = tt at *
        simp! [P_L_told, g_L_told, tb_L_told_1, ts_L_told_1, ts_L_told_2, n, r]
      · simp! [P_L_told, g_L_told, tb_L_told_1, ts_L_told_1, ts_L_told_2, n, r, xNoPlace, mxm_NoPlace, mxm_RowsError]
  · have w1 : P_want_form [th] = some (.ex ⟨0, [.str s]⟩) := by simp! [P_want_form, g_want_form, hf]
    by_cases hn : p = .non
    · subst hn
      simp! [P_L_told, g_L_told, tb_L_told_1, ts_L_told_1, ts_L_told_2, w1, mxm_NoPlace, mxm_RowsError, mki_NoForm, mki_ValueError, mf_what]
    · have n := np hn
      have r : P_ticket_at [th, p] = some (.ex ⟨0, [.str s]⟩) := by simp! [P_ticket_at, g_ticket_at, w1]
      simp! [P_L_told, g_L_told, tb_L_told_1, ts_L_told_1, ts_L_told_2, n, r, mxm_NoPlace, mxm_RowsError, mki_NoForm, mki_ValueError, mf_what]
theorem turn {ns : List Int} {k : Nat} (hk : k < 63) (c2 c3 c4 c5 c6 c7 c8 c9 c10 c11 : Option Cell) : ∃ l : List (Option Cell), fb_law_2 [some (.dat (.scr ns)), some (.dat (.int k)), c2, c3, c4, c5, c6, c7, c8, c9, c10, c11] = some (.ok .next ([some (.dat (.scr ns)), some (.dat (.int k))] ++ l)) ∧ l.length = 10 := by
  obtain ⟨d, ed, pd⟩ := pot (ns := ns) hk
  obtain ⟨H0, T0, d1, e1, F0, p1⟩ := good pd
  have o : Ok (H0.take 4) (T0.take 5) := F0.o.sub (List.take_sublist _ _) (List.take_sublist _ _)
  have cH : cutG (H0.map tD) none (some 4) = (H0.take 4).map tD := by
    have := cut_to (H0.map tD) 4
    rw [List.map_take]
    exact this
  have cT : cutG (T0.map lD) none (some 5) = (T0.take 5).map lD := by
    have := cut_to (T0.map lD) 5
    rw [List.map_take]
    exact this
  have hH : ∀ t ∈ H0.take 4, Tq (10 ^ 60) t := fun t ht => F0.h t (List.mem_of_mem_take ht)
  have hT : ∀ t ∈ T0.take 5, Lq (10 ^ 60) t := fun t ht => F0.t t (List.mem_of_mem_take ht)
  have lH : (H0.take 4).length ≤ 4 := by rw [List.length_take]; omega
  have lT : (T0.take 5).length ≤ 5 := by rw [List.length_take]; omega
  generalize H0.take 4 = H at *
  generalize T0.take 5 = T at *
  obtain ⟨H', T', d2, e2, w, p2⟩ := twice p1 hH hT lH lT
  have N190 : 10 ^ 83 ≤ 10 ^ 190 := by decide +kernel
  have h1 := small_t w.h N190
  have h2 := small_l w.t N190
  have l1 : (H'.map tD).length ≤ 6 := by rw [List.length_map]; have := w.lh; omega
  have l2 : (T'.map lD).length ≤ 6 := by rw [List.length_map]; exact w.lt
  obtain ⟨rv1, x, d3, e3, hrv1, sx, p3⟩ := headL p2 l1 h1
  obtain ⟨rv2, y, d4, e4, hrv2, sy, p4⟩ := tailL p3 l2 h2
  obtain ⟨th, d5, e5, hth, p5⟩ := wholeL p4 x y
  obtain ⟨e, e6, hf, hok, he⟩ := dueL o w sx sy hth
  obtain ⟨u, v, ru, rv, _⟩ := seen sx sy hth
  have tw : eqF true (fD H' T') (fD H T) = some (.dat (.bl (!decide (H' = H ∧ T' = T)))) := by
    have f1 := form_fine w.h w.t N190
    have f2 := form_fine hH hT (show 10 ^ 60 ≤ 10 ^ 190 by decide +kernel)
    rw [f1.eq true f2, eqv_form, Bool.true_xor]
  have hok' : e = .non → ∃ H T, th = fD H T ∧ Form (10 ^ 83) H T := fun z => ⟨H', T', (hok z).1, ⟨w.h, w.t, (hok z).2, by have := w.lh; omega, by have := w.lt; omega⟩⟩
  have ne : eqF true e e = some (.dat (.bl false)) := by
    rcases he with rfl | ⟨s, rfl⟩
    · exact fi_non.same (B := 200) (k := 0) (n := 0) true
    · rw [eqF_strs]
      simp
  have isf : P_is_form [th] = some (.ok (.dat (.bl (isNon e)))) := by
    simp! [P_is_form, g_is_form, hf]
  have isn : fIsN false e .non = some (.dat (.bl (isNon e))) := by
    rcases he with rfl | ⟨s, rfl⟩ <;> rfl
  obtain ⟨tb, hb⟩ : ∃ tb : Str, fReprE (.bl (isNon e)) = some (.dat (.str tb)) := by
    obtain ⟨q, _, b, _⟩ := rp_of (k := 0) (n := 0) (tn_bl (isNon e)) nd_bl
    exact ⟨_, b⟩
  have sb := eqF_strs true tb tb
  have su := eqF_strs true u u
  rw [decide_eq_true rfl, Bool.true_xor] at sb su
  have pw : powOk 10 9 = true := powOk_lit (by decide) (by decide) (by decide)
  have at0 : ∀ x y : D, L2.atI [x, y] 0 = some x := fun _ _ => rfl
  have at1 : ∀ x y : D, L2.atI [x, y] 1 = some y := fun _ _ => rfl
  have loop := for_run (g := ft_law_1) (b := fb_law_1) (fun _ env => ∃ c : Option Cell, env = [some (.dat (.scr ns)), some (.dat (.int k)), some (.own d5), some (.dat (fD (H0) (T0))), some (.dat (.tup (H.map tD))), some (.dat (.tup (T.map lD))), some (.dat (fD H' T')), some (.dat (.tup [x, y])), some (.dat th), some (.dat e), some (.dat (.str u)), c])
    [.non, .int 0, .int (-1), .int (10 ^ 9), .str "0", .non] 0 [some (.dat (.scr ns)), some (.dat (.int k)), some (.own d5), some (.dat (fD (H0) (T0))), some (.dat (.tup (H.map tD))), some (.dat (.tup (T.map lD))), some (.dat (fD H' T')), some (.dat (.tup [x, y])), some (.dat th), some (.dat e), some (.dat (.str u)), c11] (by
      rintro i dd env hd ⟨c, rfl⟩
      have hp : dd = .non ∨ dd = .str "0" ∨ ∃ i : Int, dd = .int i ∧ i < 10 ^ 190 := by
        have m := List.mem_of_getElem? hd
        simp only [List.mem_cons, List.not_mem_nil, or_false] at m
        rcases m with rfl | rfl | rfl | rfl | rfl | rfl
        · exact .inl rfl
        · exact .inr (.inr ⟨0, rfl, by decide +kernel⟩)
        · exact .inr (.inr ⟨-1, rfl, by decide +kernel⟩)
        · exact .inr (.inr ⟨10 ^ 9, rfl, by decide +kernel⟩)
        · exact .inr (.inl rfl)
        · exact .inl rfl
      have t := told hf he hok' hp
      refine ⟨_, _, by simp [ft_law_1, gNm]; rfl, ?_, some (.dat dd), rfl⟩
      generalize fD H0 T0 = z0 at *
      generalize fD H' T' = z1 at *
      generalize H.map tD = z2 at *
      generalize T.map lD = z3 at *
      simp! [fb_law_1, t, ne]) ⟨c11, rfl⟩
  obtain ⟨env, h5, c, rfl⟩ := loop
  have z2 : szOk 2 = true := rfl
  have z6 : szOk 6 = true := rfl
  refine ⟨[some (.own d5), some (.dat (fD H0 T0)), some (.dat (.tup (H.map tD))), some (.dat (.tup (T.map lD))), some (.dat (fD H' T')), some (.dat (.tup [x, y])), some (.dat th), some (.dat e), some (.dat (.str u)), c], ?_, rfl⟩
  simp only [fD] at e1 e2 e6 tw h5 ⊢
  generalize H.map tD = A at *
  generalize T.map lD = B at *
  generalize H'.map tD = A' at *
  generalize T'.map lD = B' at *
  generalize H0.map tD = A0 at *
  generalize T0.map lD = B0 at *
  generalize (decide (H' = H ∧ T' = T)) = dd at *
  simp at h5
  rcases he with rfl | ⟨s, rfl⟩ <;> simp only [isNon] at hb isf isn <;> rcases hrv1 with rfl | rfl <;> rcases hrv2 with rfl | rfl <;> simp! [fb_law_2, ed, e1, cH, cT, e2, e3, e4, e5, e6, at0, at1, tw, ru, pw, h5, isf, isn, hb, sb, su, z2, z6]
theorem law_true : ∀ ns : List Int, ns.length ≤ 63 → (∀ z ∈ ns, Builtin.Int.intBits z ≤ 1048576) → P_law [.scr ns] = some (.ok (.dat (.bl true))) := by
  intro ns hl _
  have loop : ∀ m : Nat, m ≤ 8 → _ := fun m hm => for_run (g := ft_law_2) (b := fb_law_2) (fun _ env => ∃ l : List (Option Cell), env = some (.dat (.scr ns)) :: l ∧ l.length = 11) (Tk.intsFrom 0 m) 0 [some (.dat (.scr ns)), none, none, none, none, none, none, none, none, none, none, none] (fun i dd env hd hI => by
    obtain ⟨l, rfl, hl⟩ := hI
    match l, hl with
    | [c1, c2, c3, c4, c5, c6, c7, c8, c9, c10, c11], _ =>
    obtain ⟨hi, rfl⟩ := ints_get hd
    obtain ⟨l2, he, hl2⟩ := turn (ns := ns) (k := i) (by omega) c2 c3 c4 c5 c6 c7 c8 c9 c10 c11
    exact ⟨_, _, by simp [ft_law_2, gNm], he, _, rfl, by simp [hl2]⟩) ⟨_, rfl, rfl⟩
  obtain ⟨m, m12, em⟩ := turns_of ns.length 8 (by omega)
  obtain ⟨e', h5, l, rfl, hl2⟩ := loop m m12
  have hs62 : small62 (m : Int) = true := s62 (by omega)
  have hz : szOk ns.length = true := decide_eq_true (by omega)
  simp at em
  simp! [P_law, g_law, L2.atI, L2.ixN, hz, em, hs62, h5]
end K16
namespace K16
open PySem PySem.Spec PyProof.Rows L2 Tk
theorem all_mk {P : Program} {w : World} {K : PySem.W.Frag} {h : Heap} {mg : Str → Option Value} {fa : Addr} (X : K.In h) (G : h.Ns mainGlobals mg) (hfa : mg "law" = some (.ref fa))
    {od_L_pot an_L_pot : Option Addr} {sl_L_pot : Array (Option Value)} {oc_L_pot kV_L_pot dc_L_pot pm_L_pot cd_L_pot ct_L_pot : Value} {f_L_pot : Addr}
    (a_L_pot : PySem.W.nsIn K mainGlobals "_law_pot" = some (some (.ref f_L_pot))) (l_L_pot : K.lookup f_L_pot = some ⟨oc_L_pot, od_L_pot, .func (PySem.W.fnOf "_law_pot" "_law_pot" (defArgs s_L_pot) (defBody s_L_pot) (defScope s_L_pot) .none kV_L_pot dc_L_pot pm_L_pot an_L_pot cd_L_pot ct_L_pot), sl_L_pot⟩) (c_L_pot : PySem.W.codeIn K cd_L_pot "_law_pot" = true) (k_L_pot : PySem.W.keepIn K (.ref f_L_pot) = true)
    {od_L_digit an_L_digit : Option Addr} {sl_L_digit : Array (Option Value)} {oc_L_digit kV_L_digit dc_L_digit pm_L_digit cd_L_digit ct_L_digit : Value} {f_L_digit : Addr}
    (a_L_digit : PySem.W.nsIn K mainGlobals "_law_digit" = some (some (.ref f_L_digit))) (l_L_digit : K.lookup f_L_digit = some ⟨oc_L_digit, od_L_digit, .func (PySem.W.fnOf "_law_digit" "_law_digit" (defArgs s_L_digit) (defBody s_L_digit) (defScope s_L_digit) .none kV_L_digit dc_L_digit pm_L_digit an_L_digit cd_L_digit ct_L_digit), sl_L_digit⟩) (c_L_digit : PySem.W.codeIn K cd_L_digit "_law_digit" = true) (k_L_digit : PySem.W.keepIn K (.ref f_L_digit) = true)
    {od_L_mixed an_L_mixed : Option Addr} {sl_L_mixed : Array (Option Value)} {oc_L_mixed kV_L_mixed dc_L_mixed pm_L_mixed cd_L_mixed ct_L_mixed : Value} {f_L_mixed : Addr}
    (a_L_mixed : PySem.W.nsIn K mainGlobals "_law_mixed" = some (some (.ref f_L_mixed))) (l_L_mixed : K.lookup f_L_mixed = some ⟨oc_L_mixed, od_L_mixed, .func (PySem.W.fnOf "_law_mixed" "_law_mixed" (defArgs s_L_mixed) (defBody s_L_mixed) (defScope s_L_mixed) .none kV_L_mixed dc_L_mixed pm_L_mixed an_L_mixed cd_L_mixed ct_L_mixed), sl_L_mixed⟩) (c_L_mixed : PySem.W.codeIn K cd_L_mixed "_law_mixed" = true) (k_L_mixed : PySem.W.keepIn K (.ref f_L_mixed) = true)
    {od_L_lines an_L_lines : Option Addr} {sl_L_lines : Array (Option Value)} {oc_L_lines kV_L_lines dc_L_lines pm_L_lines cd_L_lines ct_L_lines : Value} {f_L_lines : Addr}
    (a_L_lines : PySem.W.nsIn K mainGlobals "_law_lines" = some (some (.ref f_L_lines))) (l_L_lines : K.lookup f_L_lines = some ⟨oc_L_lines, od_L_lines, .func (PySem.W.fnOf "_law_lines" "_law_lines" (defArgs s_L_lines) (defBody s_L_lines) (defScope s_L_lines) .none kV_L_lines dc_L_lines pm_L_lines an_L_lines cd_L_lines ct_L_lines), sl_L_lines⟩) (c_L_lines : PySem.W.codeIn K cd_L_lines "_law_lines" = true) (k_L_lines : PySem.W.keepIn K (.ref f_L_lines) = true)
    {od_L_far an_L_far : Option Addr} {sl_L_far : Array (Option Value)} {oc_L_far kV_L_far dc_L_far pm_L_far cd_L_far ct_L_far : Value} {f_L_far : Addr}
    (a_L_far : PySem.W.nsIn K mainGlobals "_law_far" = some (some (.ref f_L_far))) (l_L_far : K.lookup f_L_far = some ⟨oc_L_far, od_L_far, .func (PySem.W.fnOf "_law_far" "_law_far" (defArgs s_L_far) (defBody s_L_far) (defScope s_L_far) .none kV_L_far dc_L_far pm_L_far an_L_far cd_L_far ct_L_far), sl_L_far⟩) (c_L_far : PySem.W.codeIn K cd_L_far "_law_far" = true) (k_L_far : PySem.W.keepIn K (.ref f_L_far) = true)
    {od_L_good an_L_good : Option Addr} {sl_L_good : Array (Option Value)} {oc_L_good kV_L_good dc_L_good pm_L_good cd_L_good ct_L_good : Value} {f_L_good : Addr}
    (a_L_good : PySem.W.nsIn K mainGlobals "_law_good" = some (some (.ref f_L_good))) (l_L_good : K.lookup f_L_good = some ⟨oc_L_good, od_L_good, .func (PySem.W.fnOf "_law_good" "_law_good" (defArgs s_L_good) (defBody s_L_good) (defScope s_L_good) .none kV_L_good dc_L_good pm_L_good an_L_good cd_L_good ct_L_good), sl_L_good⟩) (c_L_good : PySem.W.codeIn K cd_L_good "_law_good" = true) (k_L_good : PySem.W.keepIn K (.ref f_L_good) = true)
    {od_L_met an_L_met : Option Addr} {sl_L_met : Array (Option Value)} {oc_L_met kV_L_met dc_L_met pm_L_met cd_L_met ct_L_met : Value} {f_L_met : Addr}
    (a_L_met : PySem.W.nsIn K mainGlobals "_law_met" = some (some (.ref f_L_met))) (l_L_met : K.lookup f_L_met = some ⟨oc_L_met, od_L_met, .func (PySem.W.fnOf "_law_met" "_law_met" (defArgs s_L_met) (defBody s_L_met) (defScope s_L_met) .none kV_L_met dc_L_met pm_L_met an_L_met cd_L_met ct_L_met), sl_L_met⟩) (c_L_met : PySem.W.codeIn K cd_L_met "_law_met" = true) (k_L_met : PySem.W.keepIn K (.ref f_L_met) = true)
    {od_L_twice an_L_twice : Option Addr} {sl_L_twice : Array (Option Value)} {oc_L_twice kV_L_twice dc_L_twice pm_L_twice cd_L_twice ct_L_twice : Value} {f_L_twice : Addr}
    (a_L_twice : PySem.W.nsIn K mainGlobals "_law_twice" = some (some (.ref f_L_twice))) (l_L_twice : K.lookup f_L_twice = some ⟨oc_L_twice, od_L_twice, .func (PySem.W.fnOf "_law_twice" "_law_twice" (defArgs s_L_twice) (defBody s_L_twice) (defScope s_L_twice) .none kV_L_twice dc_L_twice pm_L_twice an_L_twice cd_L_twice ct_L_twice), sl_L_twice⟩) (c_L_twice : PySem.W.codeIn K cd_L_twice "_law_twice" = true) (k_L_twice : PySem.W.keepIn K (.ref f_L_twice) = true)
    {od_L_whole an_L_whole : Option Addr} {sl_L_whole : Array (Option Value)} {oc_L_whole kV_L_whole dc_L_whole pm_L_whole cd_L_whole ct_L_whole : Value} {f_L_whole : Addr}
    (a_L_whole : PySem.W.nsIn K mainGlobals "_law_whole" = some (some (.ref f_L_whole))) (l_L_whole : K.lookup f_L_whole = some ⟨oc_L_whole, od_L_whole, .func (PySem.W.fnOf "_law_whole" "_law_whole" (defArgs s_L_whole) (defBody s_L_whole) (defScope s_L_whole) .none kV_L_whole dc_L_whole pm_L_whole an_L_whole cd_L_whole ct_L_whole), sl_L_whole⟩) (c_L_whole : PySem.W.codeIn K cd_L_whole "_law_whole" = true) (k_L_whole : PySem.W.keepIn K (.ref f_L_whole) = true)
    {od_L_due an_L_due : Option Addr} {sl_L_due : Array (Option Value)} {oc_L_due kV_L_due dc_L_due pm_L_due cd_L_due ct_L_due : Value} {f_L_due : Addr}
    (a_L_due : PySem.W.nsIn K mainGlobals "_law_due" = some (some (.ref f_L_due))) (l_L_due : K.lookup f_L_due = some ⟨oc_L_due, od_L_due, .func (PySem.W.fnOf "_law_due" "_law_due" (defArgs s_L_due) (defBody s_L_due) (defScope s_L_due) .none kV_L_due dc_L_due pm_L_due an_L_due cd_L_due ct_L_due), sl_L_due⟩) (c_L_due : PySem.W.codeIn K cd_L_due "_law_due" = true) (k_L_due : PySem.W.keepIn K (.ref f_L_due) = true)
    {od_L_head an_L_head : Option Addr} {sl_L_head : Array (Option Value)} {oc_L_head kV_L_head dc_L_head pm_L_head cd_L_head ct_L_head : Value} {f_L_head : Addr}
    (a_L_head : PySem.W.nsIn K mainGlobals "_law_head" = some (some (.ref f_L_head))) (l_L_head : K.lookup f_L_head = some ⟨oc_L_head, od_L_head, .func (PySem.W.fnOf "_law_head" "_law_head" (defArgs s_L_head) (defBody s_L_head) (defScope s_L_head) .none kV_L_head dc_L_head pm_L_head an_L_head cd_L_head ct_L_head), sl_L_head⟩) (c_L_head : PySem.W.codeIn K cd_L_head "_law_head" = true) (k_L_head : PySem.W.keepIn K (.ref f_L_head) = true)
    {od_L_tail an_L_tail : Option Addr} {sl_L_tail : Array (Option Value)} {oc_L_tail kV_L_tail dc_L_tail pm_L_tail cd_L_tail ct_L_tail : Value} {f_L_tail : Addr}
    (a_L_tail : PySem.W.nsIn K mainGlobals "_law_tail" = some (some (.ref f_L_tail))) (l_L_tail : K.lookup f_L_tail = some ⟨oc_L_tail, od_L_tail, .func (PySem.W.fnOf "_law_tail" "_law_tail" (defArgs s_L_tail) (defBody s_L_tail) (defScope s_L_tail) .none kV_L_tail dc_L_tail pm_L_tail an_L_tail cd_L_tail ct_L_tail), sl_L_tail⟩) (c_L_tail : PySem.W.codeIn K cd_L_tail "_law_tail" = true) (k_L_tail : PySem.W.keepIn K (.ref f_L_tail) = true)
    {od_is_name an_is_name : Option Addr} {sl_is_name : Array (Option Value)} {oc_is_name kV_is_name dc_is_name pm_is_name cd_is_name ct_is_name : Value} {f_is_name : Addr}
    (a_is_name : PySem.W.nsIn K mainGlobals "is_name" = some (some (.ref f_is_name))) (l_is_name : K.lookup f_is_name = some ⟨oc_is_name, od_is_name, .func (PySem.W.fnOf "is_name" "is_name" (defArgs s_is_name) (defBody s_is_name) (defScope s_is_name) .none kV_is_name dc_is_name pm_is_name an_is_name cd_is_name ct_is_name), sl_is_name⟩) (c_is_name : PySem.W.codeIn K cd_is_name "is_name" = true) (k_is_name : PySem.W.keepIn K (.ref f_is_name) = true)
    {od_is_letter an_is_letter : Option Addr} {sl_is_letter : Array (Option Value)} {oc_is_letter kV_is_letter dc_is_letter pm_is_letter cd_is_letter ct_is_letter : Value} {f_is_letter : Addr}
    (a_is_letter : PySem.W.nsIn K mainGlobals "is_letter" = some (some (.ref f_is_letter))) (l_is_letter : K.lookup f_is_letter = some ⟨oc_is_letter, od_is_letter, .func (PySem.W.fnOf "is_letter" "is_letter" (defArgs s_is_letter) (defBody s_is_letter) (defScope s_is_letter) .none kV_is_letter dc_is_letter pm_is_letter an_is_letter cd_is_letter ct_is_letter), sl_is_letter⟩) (c_is_letter : PySem.W.codeIn K cd_is_letter "is_letter" = true) (k_is_letter : PySem.W.keepIn K (.ref f_is_letter) = true)
    {od_is_whole an_is_whole : Option Addr} {sl_is_whole : Array (Option Value)} {oc_is_whole kV_is_whole dc_is_whole pm_is_whole cd_is_whole ct_is_whole : Value} {f_is_whole : Addr}
    (a_is_whole : PySem.W.nsIn K mainGlobals "is_whole" = some (some (.ref f_is_whole))) (l_is_whole : K.lookup f_is_whole = some ⟨oc_is_whole, od_is_whole, .func (PySem.W.fnOf "is_whole" "is_whole" (defArgs s_is_whole) (defBody s_is_whole) (defScope s_is_whole) .none kV_is_whole dc_is_whole pm_is_whole an_is_whole cd_is_whole ct_is_whole), sl_is_whole⟩) (c_is_whole : PySem.W.codeIn K cd_is_whole "is_whole" = true) (k_is_whole : PySem.W.keepIn K (.ref f_is_whole) = true)
    {od_is_ticket an_is_ticket : Option Addr} {sl_is_ticket : Array (Option Value)} {oc_is_ticket kV_is_ticket dc_is_ticket pm_is_ticket cd_is_ticket ct_is_ticket : Value} {f_is_ticket : Addr}
    (a_is_ticket : PySem.W.nsIn K mainGlobals "is_ticket" = some (some (.ref f_is_ticket))) (l_is_ticket : K.lookup f_is_ticket = some ⟨oc_is_ticket, od_is_ticket, .func (PySem.W.fnOf "is_ticket" "is_ticket" (defArgs s_is_ticket) (defBody s_is_ticket) (defScope s_is_ticket) .none kV_is_ticket dc_is_ticket pm_is_ticket an_is_ticket cd_is_ticket ct_is_ticket), sl_is_ticket⟩) (c_is_ticket : PySem.W.codeIn K cd_is_ticket "is_ticket" = true) (k_is_ticket : PySem.W.keepIn K (.ref f_is_ticket) = true)
    {od_is_line an_is_line : Option Addr} {sl_is_line : Array (Option Value)} {oc_is_line kV_is_line dc_is_line pm_is_line cd_is_line ct_is_line : Value} {f_is_line : Addr}
    (a_is_line : PySem.W.nsIn K mainGlobals "is_line" = some (some (.ref f_is_line))) (l_is_line : K.lookup f_is_line = some ⟨oc_is_line, od_is_line, .func (PySem.W.fnOf "is_line" "is_line" (defArgs s_is_line) (defBody s_is_line) (defScope s_is_line) .none kV_is_line dc_is_line pm_is_line an_is_line cd_is_line ct_is_line), sl_is_line⟩) (c_is_line : PySem.W.codeIn K cd_is_line "is_line" = true) (k_is_line : PySem.W.keepIn K (.ref f_is_line) = true)
    {od_are_all an_are_all : Option Addr} {sl_are_all : Array (Option Value)} {oc_are_all kV_are_all dc_are_all pm_are_all cd_are_all ct_are_all : Value} {f_are_all : Addr}
    (a_are_all : PySem.W.nsIn K mainGlobals "are_all" = some (some (.ref f_are_all))) (l_are_all : K.lookup f_are_all = some ⟨oc_are_all, od_are_all, .func (PySem.W.fnOf "are_all" "are_all" (defArgs s_are_all) (defBody s_are_all) (defScope s_are_all) .none kV_are_all dc_are_all pm_are_all an_are_all cd_are_all ct_are_all), sl_are_all⟩) (c_are_all : PySem.W.codeIn K cd_are_all "are_all" = true) (k_are_all : PySem.W.keepIn K (.ref f_are_all) = true)
    {od_divisor_of an_divisor_of : Option Addr} {sl_divisor_of : Array (Option Value)} {oc_divisor_of kV_divisor_of dc_divisor_of pm_divisor_of cd_divisor_of ct_divisor_of : Value} {f_divisor_of : Addr}
    (a_divisor_of : PySem.W.nsIn K mainGlobals "divisor_of" = some (some (.ref f_divisor_of))) (l_divisor_of : K.lookup f_divisor_of = some ⟨oc_divisor_of, od_divisor_of, .func (PySem.W.fnOf "divisor_of" "divisor_of" (defArgs s_divisor_of) (defBody s_divisor_of) (defScope s_divisor_of) .none kV_divisor_of dc_divisor_of pm_divisor_of an_divisor_of cd_divisor_of ct_divisor_of), sl_divisor_of⟩) (c_divisor_of : PySem.W.codeIn K cd_divisor_of "divisor_of" = true) (k_divisor_of : PySem.W.keepIn K (.ref f_divisor_of) = true)
    {od_do_meet an_do_meet : Option Addr} {sl_do_meet : Array (Option Value)} {oc_do_meet kV_do_meet dc_do_meet pm_do_meet cd_do_meet ct_do_meet : Value} {f_do_meet : Addr}
    (a_do_meet : PySem.W.nsIn K mainGlobals "do_meet" = some (some (.ref f_do_meet))) (l_do_meet : K.lookup f_do_meet = some ⟨oc_do_meet, od_do_meet, .func (PySem.W.fnOf "do_meet" "do_meet" (defArgs s_do_meet) (defBody s_do_meet) (defScope s_do_meet) .none kV_do_meet dc_do_meet pm_do_meet an_do_meet cd_do_meet ct_do_meet), sl_do_meet⟩) (c_do_meet : PySem.W.codeIn K cd_do_meet "do_meet" = true) (k_do_meet : PySem.W.keepIn K (.ref f_do_meet) = true)
    {od_is_met an_is_met : Option Addr} {sl_is_met : Array (Option Value)} {oc_is_met kV_is_met dc_is_met pm_is_met cd_is_met ct_is_met : Value} {f_is_met : Addr}
    (a_is_met : PySem.W.nsIn K mainGlobals "is_met" = some (some (.ref f_is_met))) (l_is_met : K.lookup f_is_met = some ⟨oc_is_met, od_is_met, .func (PySem.W.fnOf "is_met" "is_met" (defArgs s_is_met) (defBody s_is_met) (defScope s_is_met) .none kV_is_met dc_is_met pm_is_met an_is_met cd_is_met ct_is_met), sl_is_met⟩) (c_is_met : PySem.W.codeIn K cd_is_met "is_met" = true) (k_is_met : PySem.W.keepIn K (.ref f_is_met) = true)
    {od_turn_of an_turn_of : Option Addr} {sl_turn_of : Array (Option Value)} {oc_turn_of kV_turn_of dc_turn_of pm_turn_of cd_turn_of ct_turn_of : Value} {f_turn_of : Addr}
    (a_turn_of : PySem.W.nsIn K mainGlobals "turn_of" = some (some (.ref f_turn_of))) (l_turn_of : K.lookup f_turn_of = some ⟨oc_turn_of, od_turn_of, .func (PySem.W.fnOf "turn_of" "turn_of" (defArgs s_turn_of) (defBody s_turn_of) (defScope s_turn_of) .none kV_turn_of dc_turn_of pm_turn_of an_turn_of cd_turn_of ct_turn_of), sl_turn_of⟩) (c_turn_of : PySem.W.codeIn K cd_turn_of "turn_of" = true) (k_turn_of : PySem.W.keepIn K (.ref f_turn_of) = true)
    {od_tells an_tells : Option Addr} {sl_tells : Array (Option Value)} {oc_tells kV_tells dc_tells pm_tells cd_tells ct_tells : Value} {f_tells : Addr}
    (a_tells : PySem.W.nsIn K mainGlobals "tells" = some (some (.ref f_tells))) (l_tells : K.lookup f_tells = some ⟨oc_tells, od_tells, .func (PySem.W.fnOf "tells" "tells" (defArgs s_tells) (defBody s_tells) (defScope s_tells) .none kV_tells dc_tells pm_tells an_tells cd_tells ct_tells), sl_tells⟩) (c_tells : PySem.W.codeIn K cd_tells "tells" = true) (k_tells : PySem.W.keepIn K (.ref f_tells) = true)
    {od_tells_twice an_tells_twice : Option Addr} {sl_tells_twice : Array (Option Value)} {oc_tells_twice kV_tells_twice dc_tells_twice pm_tells_twice cd_tells_twice ct_tells_twice : Value} {f_tells_twice : Addr}
    (a_tells_twice : PySem.W.nsIn K mainGlobals "tells_twice" = some (some (.ref f_tells_twice))) (l_tells_twice : K.lookup f_tells_twice = some ⟨oc_tells_twice, od_tells_twice, .func (PySem.W.fnOf "tells_twice" "tells_twice" (defArgs s_tells_twice) (defBody s_tells_twice) (defScope s_tells_twice) .none kV_tells_twice dc_tells_twice pm_tells_twice an_tells_twice cd_tells_twice ct_tells_twice), sl_tells_twice⟩) (c_tells_twice : PySem.W.codeIn K cd_tells_twice "tells_twice" = true) (k_tells_twice : PySem.W.keepIn K (.ref f_tells_twice) = true)
    {od_fault_of an_fault_of : Option Addr} {sl_fault_of : Array (Option Value)} {oc_fault_of kV_fault_of dc_fault_of pm_fault_of cd_fault_of ct_fault_of : Value} {f_fault_of : Addr}
    (a_fault_of : PySem.W.nsIn K mainGlobals "fault_of" = some (some (.ref f_fault_of))) (l_fault_of : K.lookup f_fault_of = some ⟨oc_fault_of, od_fault_of, .func (PySem.W.fnOf "fault_of" "fault_of" (defArgs s_fault_of) (defBody s_fault_of) (defScope s_fault_of) .none kV_fault_of dc_fault_of pm_fault_of an_fault_of cd_fault_of ct_fault_of), sl_fault_of⟩) (c_fault_of : PySem.W.codeIn K cd_fault_of "fault_of" = true) (k_fault_of : PySem.W.keepIn K (.ref f_fault_of) = true)
    {od_want_form an_want_form : Option Addr} {sl_want_form : Array (Option Value)} {oc_want_form kV_want_form dc_want_form pm_want_form cd_want_form ct_want_form : Value} {f_want_form : Addr}
    (a_want_form : PySem.W.nsIn K mainGlobals "want_form" = some (some (.ref f_want_form))) (l_want_form : K.lookup f_want_form = some ⟨oc_want_form, od_want_form, .func (PySem.W.fnOf "want_form" "want_form" (defArgs s_want_form) (defBody s_want_form) (defScope s_want_form) .none kV_want_form dc_want_form pm_want_form an_want_form cd_want_form ct_want_form), sl_want_form⟩) (c_want_form : PySem.W.codeIn K cd_want_form "want_form" = true) (k_want_form : PySem.W.keepIn K (.ref f_want_form) = true)
    {od_told_at an_told_at : Option Addr} {sl_told_at : Array (Option Value)} {oc_told_at kV_told_at dc_told_at pm_told_at cd_told_at ct_told_at : Value} {f_told_at : Addr}
    (a_told_at : PySem.W.nsIn K mainGlobals "told_at" = some (some (.ref f_told_at))) (l_told_at : K.lookup f_told_at = some ⟨oc_told_at, od_told_at, .func (PySem.W.fnOf "told_at" "told_at" (defArgs s_told_at) (defBody s_told_at) (defScope s_told_at) .none kV_told_at dc_told_at pm_told_at an_told_at cd_told_at ct_told_at), sl_told_at⟩) (c_told_at : PySem.W.codeIn K cd_told_at "told_at" = true) (k_told_at : PySem.W.keepIn K (.ref f_told_at) = true)
    {od_standing an_standing : Option Addr} {sl_standing : Array (Option Value)} {oc_standing kV_standing dc_standing pm_standing cd_standing ct_standing : Value} {f_standing : Addr}
    (a_standing : PySem.W.nsIn K mainGlobals "standing" = some (some (.ref f_standing))) (l_standing : K.lookup f_standing = some ⟨oc_standing, od_standing, .func (PySem.W.fnOf "standing" "standing" (defArgs s_standing) (defBody s_standing) (defScope s_standing) .none kV_standing dc_standing pm_standing an_standing cd_standing ct_standing), sl_standing⟩) (c_standing : PySem.W.codeIn K cd_standing "standing" = true) (k_standing : PySem.W.keepIn K (.ref f_standing) = true)
    {od_has_place an_has_place : Option Addr} {sl_has_place : Array (Option Value)} {oc_has_place kV_has_place dc_has_place pm_has_place cd_has_place ct_has_place : Value} {f_has_place : Addr}
    (a_has_place : PySem.W.nsIn K mainGlobals "has_place" = some (some (.ref f_has_place))) (l_has_place : K.lookup f_has_place = some ⟨oc_has_place, od_has_place, .func (PySem.W.fnOf "has_place" "has_place" (defArgs s_has_place) (defBody s_has_place) (defScope s_has_place) .none kV_has_place dc_has_place pm_has_place an_has_place cd_has_place ct_has_place), sl_has_place⟩) (c_has_place : PySem.W.codeIn K cd_has_place "has_place" = true) (k_has_place : PySem.W.keepIn K (.ref f_has_place) = true)
    {od_ticket_at an_ticket_at : Option Addr} {sl_ticket_at : Array (Option Value)} {oc_ticket_at kV_ticket_at dc_ticket_at pm_ticket_at cd_ticket_at ct_ticket_at : Value} {f_ticket_at : Addr}
    (a_ticket_at : PySem.W.nsIn K mainGlobals "ticket_at" = some (some (.ref f_ticket_at))) (l_ticket_at : K.lookup f_ticket_at = some ⟨oc_ticket_at, od_ticket_at, .func (PySem.W.fnOf "ticket_at" "ticket_at" (defArgs s_ticket_at) (defBody s_ticket_at) (defScope s_ticket_at) .none kV_ticket_at dc_ticket_at pm_ticket_at an_ticket_at cd_ticket_at ct_ticket_at), sl_ticket_at⟩) (c_ticket_at : PySem.W.codeIn K cd_ticket_at "ticket_at" = true) (k_ticket_at : PySem.W.keepIn K (.ref f_ticket_at) = true)
    {od_L_told an_L_told : Option Addr} {sl_L_told : Array (Option Value)} {oc_L_told kV_L_told dc_L_told pm_L_told cd_L_told ct_L_told : Value} {f_L_told : Addr}
    (a_L_told : PySem.W.nsIn K mainGlobals "_law_told" = some (some (.ref f_L_told))) (l_L_told : K.lookup f_L_told = some ⟨oc_L_told, od_L_told, .func (PySem.W.fnOf "_law_told" "_law_told" (defArgs s_L_told) (defBody s_L_told) (defScope s_L_told) .none kV_L_told dc_L_told pm_L_told an_L_told cd_L_told ct_L_told), sl_L_told⟩) (c_L_told : PySem.W.codeIn K cd_L_told "_law_told" = true) (k_L_told : PySem.W.keepIn K (.ref f_L_told) = true)
    {od_is_form an_is_form : Option Addr} {sl_is_form : Array (Option Value)} {oc_is_form kV_is_form dc_is_form pm_is_form cd_is_form ct_is_form : Value} {f_is_form : Addr}
    (a_is_form : PySem.W.nsIn K mainGlobals "is_form" = some (some (.ref f_is_form))) (l_is_form : K.lookup f_is_form = some ⟨oc_is_form, od_is_form, .func (PySem.W.fnOf "is_form" "is_form" (defArgs s_is_form) (defBody s_is_form) (defScope s_is_form) .none kV_is_form dc_is_form pm_is_form an_is_form cd_is_form ct_is_form), sl_is_form⟩) (c_is_form : PySem.W.codeIn K cd_is_form "is_form" = true) (k_is_form : PySem.W.keepIn K (.ref f_is_form) = true)
    {od_law an_law : Option Addr} {sl_law : Array (Option Value)} {oc_law kV_law dc_law pm_law cd_law ct_law : Value} {f_law : Addr}
    (a_law : PySem.W.nsIn K mainGlobals "law" = some (some (.ref f_law))) (l_law : K.lookup f_law = some ⟨oc_law, od_law, .func (PySem.W.fnOf "law" "law" (defArgs s_law) (defBody s_law) (defScope s_law) .none kV_law dc_law pm_law an_law cd_law ct_law), sl_law⟩) (c_law : PySem.W.codeIn K cd_law "law" = true) (k_law : PySem.W.keepIn K (.ref f_law) = true)
    {cl_NoForm : Addr} (ag_NoForm : PySem.W.nsIn K mainGlobals "NoForm" = some (some (.ref cl_NoForm)))
    {cl_RowsError : Addr} (ag_RowsError : PySem.W.nsIn K mainGlobals "RowsError" = some (some (.ref cl_RowsError)))
    {cl_NoNumber : Addr} (ag_NoNumber : PySem.W.nsIn K mainGlobals "NoNumber" = some (some (.ref cl_NoNumber)))
    {cl_NoPlace : Addr} (ag_NoPlace : PySem.W.nsIn K mainGlobals "NoPlace" = some (some (.ref cl_NoPlace)))
    {nm_NoForm q_NoForm : Str} {N_NoForm : Addr} {bs_NoForm bm_NoForm : List Value} {sn_NoForm : List Str} {sub_NoForm : List Value} {ab_NoForm : Bool} {col_NoForm : Option Bool} {dd_NoForm : Option Addr} {k0_NoForm k1_NoForm k2_NoForm k3_NoForm k5_NoForm : Option Value}
    (lc_NoForm : K.lookup cl_NoForm = some (excClassObj nm_NoForm q_NoForm cl_NoForm N_NoForm bs_NoForm bm_NoForm true sn_NoForm sub_NoForm ab_NoForm col_NoForm dd_NoForm k0_NoForm k1_NoForm k2_NoForm k3_NoForm k5_NoForm "ValueError.__new__")) (rv_NoForm : PySem.HandSPX.refsVE bm_NoForm = true)
    {fi_NoForm : Addr} (iC_NoForm : PySem.W.findIn K (.ref cl_NoForm) "__init__" = some (some (.ref fi_NoForm))) (tI_NoForm : PySem.W.typeIn K (.ref fi_NoForm) = some (.type "function"))
    {odi_NoForm ani_NoForm : Option Addr} {sli_NoForm : Array (Option Value)} {oci_NoForm kVi_NoForm dci_NoForm pmi_NoForm cdi_NoForm cti_NoForm : Value} (li_NoForm : K.lookup fi_NoForm = some ⟨oci_NoForm, odi_NoForm, .func (PySem.W.fnOf "__init__" "NoForm.__init__" (defArgs si_NoForm) (defBody si_NoForm) (defScope si_NoForm) .none kVi_NoForm dci_NoForm pmi_NoForm ani_NoForm cdi_NoForm cti_NoForm), sli_NoForm⟩) (ci_NoForm : PySem.W.codeIn K cdi_NoForm "NoForm.__init__" = true)
    (af_k_NoForm : PySem.W.keepIn K (.ref cl_NoForm) = true)
    (af_sa_NoForm : PySem.W.findIn K (.ref cl_NoForm) "__setattr__" = some (some (.builtin "object.__setattr__")))
    (af_b_NoForm : PySem.W.subIn K (.ref cl_NoForm) (.type "BaseException") = some true)
    (af_t_NoForm : PySem.W.typeIn K (.ref cl_NoForm) = some (.type "type"))
    (af_n_NoForm_what : PySem.W.findIn K (.ref cl_NoForm) "what" = some none)
    (af_sg_RowsError : PySem.W.specialIn K (.ref cl_RowsError) "__getattribute__" = some (some (.builtin "type.__getattribute__")))
    (af_rd_RowsError : PySem.W.readsIn K cl_RowsError (.type "type") = true)
    (af_fv_RowsError : PySem.W.findCls K (.ref cl_RowsError) (.type "type") "__init__" = some (.val (.builtin "ValueError.__init__")))
    (af_eg_NoForm : PySem.W.findIn K (.ref cl_NoForm) "__getattribute__" = some (some (.builtin "BaseException.__getattribute__")))
    (af_ek_NoForm : PySem.W.findIn K (.ref cl_NoForm) "__getattr__" = some none)
    (af_ed_NoForm : PySem.W.hasDictIn K cl_NoForm = true)
    (af_ea_NoForm : PySem.W.findIn K (.ref cl_NoForm) "__class__" = some (some (.builtin "object.__class__")))
    (af_em_NoForm : PySem.W.mroIn K cl_NoForm (.type "object") = some true)
    (af_b_NoPlace : PySem.W.subIn K (.ref cl_NoPlace) (.type "BaseException") = some true)
    (af_i_NoPlace : PySem.W.isClsIn K cl_NoPlace = true)
    (af_t_NoPlace : PySem.W.typeIn K (.ref cl_NoPlace) = some (.type "type"))
    (af_s_NoForm_NoPlace : PySem.W.subIn K (.ref cl_NoForm) (.ref cl_NoPlace) = some false)
    (af_b_RowsError : PySem.W.subIn K (.ref cl_RowsError) (.type "BaseException") = some true)
    (af_i_RowsError : PySem.W.isClsIn K cl_RowsError = true)
    (af_t_RowsError : PySem.W.typeIn K (.ref cl_RowsError) = some (.type "type"))
    (af_s_NoForm_RowsError : PySem.W.subIn K (.ref cl_NoForm) (.ref cl_RowsError) = some true)
    (af_i_NoForm : PySem.W.isClsIn K cl_NoForm = true)
    (af_s_NoForm_NoForm : PySem.W.subIn K (.ref cl_NoForm) (.ref cl_NoForm) = some true)
    (af_s_NoForm_ValueError : PySem.W.subIn K (.ref cl_NoForm) (.type "ValueError") = some true)
    (af_k_NoNumber : PySem.W.keepIn K (.ref cl_NoNumber) = true)
    (af_x_NoNumber : PySem.W.excIn K cl_NoNumber [.type "ValueError", .type "Exception", .type "BaseException", .type "object"] "ValueError.__new__" = true)
    (af_b_NoNumber : PySem.W.subIn K (.ref cl_NoNumber) (.type "BaseException") = some true)
    (af_t_NoNumber : PySem.W.typeIn K (.ref cl_NoNumber) = some (.type "type"))
    (af_eg_NoNumber : PySem.W.findIn K (.ref cl_NoNumber) "__getattribute__" = some (some (.builtin "BaseException.__getattribute__")))
    (af_ek_NoNumber : PySem.W.findIn K (.ref cl_NoNumber) "__getattr__" = some none)
    (af_ed_NoNumber : PySem.W.hasDictIn K cl_NoNumber = true)
    (af_ea_NoNumber : PySem.W.findIn K (.ref cl_NoNumber) "__class__" = some (some (.builtin "object.__class__")))
    (af_em_NoNumber : PySem.W.mroIn K cl_NoNumber (.type "object") = some true)
    (af_s_NoNumber_NoPlace : PySem.W.subIn K (.ref cl_NoNumber) (.ref cl_NoPlace) = some false)
    (af_s_NoNumber_RowsError : PySem.W.subIn K (.ref cl_NoNumber) (.ref cl_RowsError) = some true)
    (af_s_NoNumber_NoForm : PySem.W.subIn K (.ref cl_NoNumber) (.ref cl_NoForm) = some false)
    (af_s_NoNumber_NoNumber : PySem.W.subIn K (.ref cl_NoNumber) (.ref cl_NoNumber) = some true)
    (af_s_NoNumber_ValueError : PySem.W.subIn K (.ref cl_NoNumber) (.type "ValueError") = some true)
    (af_k_NoPlace : PySem.W.keepIn K (.ref cl_NoPlace) = true)
    (af_x_NoPlace : PySem.W.excIn K cl_NoPlace [.type "ValueError", .type "Exception", .type "BaseException", .type "object"] "ValueError.__new__" = true)
    (af_eg_NoPlace : PySem.W.findIn K (.ref cl_NoPlace) "__getattribute__" = some (some (.builtin "BaseException.__getattribute__")))
    (af_ek_NoPlace : PySem.W.findIn K (.ref cl_NoPlace) "__getattr__" = some none)
    (af_ed_NoPlace : PySem.W.hasDictIn K cl_NoPlace = true)
    (af_ea_NoPlace : PySem.W.findIn K (.ref cl_NoPlace) "__class__" = some (some (.builtin "object.__class__")))
    (af_em_NoPlace : PySem.W.mroIn K cl_NoPlace (.type "object") = some true)
    (af_s_NoPlace_NoPlace : PySem.W.subIn K (.ref cl_NoPlace) (.ref cl_NoPlace) = some true)
    (af_s_NoPlace_RowsError : PySem.W.subIn K (.ref cl_NoPlace) (.ref cl_RowsError) = some true)
    (af_s_NoPlace_NoForm : PySem.W.subIn K (.ref cl_NoPlace) (.ref cl_NoForm) = some false)
    (af_s_NoPlace_ValueError : PySem.W.subIn K (.ref cl_NoPlace) (.type "ValueError") = some true)
    (af_en_ : PySem.W.specialIn K (.builtin "object.__class__") "__get__" = some (some (.builtin "getset_descriptor.__get__")))
    (af_et_ : PySem.W.takesIn K (.builtin "object.__class__") = some true)
    {tc_LONGEST_NAME : Tok} (ac_LONGEST_NAME : PySem.W.nsIn K mainGlobals "LONGEST_NAME" = some (some (.int 8 tc_LONGEST_NAME)))
    {tc_SMALL : Tok} (ac_SMALL : PySem.W.nsIn K mainGlobals "SMALL" = some (some (.str "abcdefghijklmnopqrstuvwxyz" tc_SMALL)))
    {tc_MOST : Tok} (ac_MOST : PySem.W.nsIn K mainGlobals "MOST" = some (some (.int 240 tc_MOST)))
    (z_len : PySem.W.nsIn K mainGlobals "len" = some none)
    (z_abs : PySem.W.nsIn K mainGlobals "abs" = some none)
    (z_max : PySem.W.nsIn K mainGlobals "max" = some none)
    (z_divmod : PySem.W.nsIn K mainGlobals "divmod" = some none)
    (z_list : PySem.W.nsIn K mainGlobals "list" = some none)
    (z_range : PySem.W.nsIn K mainGlobals "range" = some none)
    (z_int : PySem.W.nsIn K mainGlobals "int" = some none)
    (z_min : PySem.W.nsIn K mainGlobals "min" = some none)
    (z_tuple : PySem.W.nsIn K mainGlobals "tuple" = some none)
    (z_repr : PySem.W.nsIn K mainGlobals "repr" = some none)
    (z_isinstance : PySem.W.nsIn K mainGlobals "isinstance" = some none)
    (z_str : PySem.W.nsIn K mainGlobals "str" = some none)
    (z_all : PySem.W.nsIn K mainGlobals "all" = some none)
    (z_bool : PySem.W.nsIn K mainGlobals "bool" = some none)
    (z_any : PySem.W.nsIn K mainGlobals "any" = some none)
    (z_set : PySem.W.nsIn K mainGlobals "set" = some none)
    (z_ValueError : PySem.W.nsIn K mainGlobals "ValueError" = some none) :
    ∃ fd : FuncData, (∀ (s : Shared) (v : Value), BindsTo s fd ⟨[v], []⟩ [("_law_script", v)]) ∧ ∃ G : Tb, G.K = K ∧ ∀ base : Heap, K.In base → base.Ns mainGlobals mg → FnG P w K mg base 9 fa fd ["_law_script"] (spP G XRx 1 P_law) := by
  have bn : Bn mg := ⟨PySem.W.mg_none_of X G z_len, PySem.W.mg_none_of X G z_abs, PySem.W.mg_none_of X G z_max, PySem.W.mg_none_of X G z_divmod, PySem.W.mg_none_of X G z_list, PySem.W.mg_none_of X G z_range, PySem.W.mg_none_of X G z_int, PySem.W.mg_none_of X G z_min, PySem.W.mg_none_of X G z_tuple, PySem.W.mg_none_of X G z_repr, PySem.W.mg_none_of X G z_isinstance, PySem.W.mg_none_of X G z_str, PySem.W.mg_none_of X G z_all, PySem.W.mg_none_of X G z_bool, PySem.W.mg_none_of X G z_any, PySem.W.mg_none_of X G z_set, PySem.W.mg_none_of X G z_ValueError⟩
  have cn : Cn mg := ⟨trivial, ⟨_, PySem.W.mg_of X G ac_LONGEST_NAME⟩, ⟨_, PySem.W.mg_of X G ac_SMALL⟩, ⟨_, PySem.W.mg_of X G ac_MOST⟩⟩
  have ce : Ce K mg ⟨0, cl_NoForm, cl_RowsError, cl_NoNumber, cl_NoPlace, f_is_ticket, f_is_line⟩ := ⟨trivial, PySem.W.mg_of X G ag_NoForm, PySem.W.mg_of X G ag_RowsError, PySem.W.mg_of X G ag_NoNumber, PySem.W.mg_of X G ag_NoPlace, af_k_NoForm, ⟨⟨_, _, _, _, _, _, _, _, _, _, _, _, _, _, _, lc_NoForm, rv_NoForm⟩, af_sa_NoForm, af_b_NoForm, af_t_NoForm, af_k_NoForm⟩, af_n_NoForm_what, af_sg_RowsError, af_rd_RowsError, af_fv_RowsError, af_eg_NoForm, af_ek_NoForm, af_ed_NoForm, af_b_NoForm, af_t_NoForm, af_ea_NoForm, af_em_NoForm, (exm_own af_b_NoPlace af_i_NoPlace af_t_NoPlace af_s_NoForm_NoPlace), (exm_own af_b_RowsError af_i_RowsError af_t_RowsError af_s_NoForm_RowsError), (kit_own af_i_NoForm af_t_NoForm af_s_NoForm_NoForm af_s_NoForm_NoForm), (kit_blt (by decide +kernel) af_s_NoForm_ValueError), af_k_NoNumber, af_x_NoNumber, af_b_NoNumber, af_t_NoNumber, af_eg_NoNumber, af_ek_NoNumber, af_ed_NoNumber, af_ea_NoNumber, af_em_NoNumber, (exm_own af_b_NoPlace af_i_NoPlace af_t_NoPlace af_s_NoNumber_NoPlace), (exm_own af_b_RowsError af_i_RowsError af_t_RowsError af_s_NoNumber_RowsError), (kit_own af_i_NoForm af_t_NoForm af_s_NoNumber_NoForm af_s_NoNumber_NoNumber), (kit_blt (by decide +kernel) af_s_NoNumber_ValueError), af_k_NoPlace, af_x_NoPlace, af_b_NoPlace, af_t_NoPlace, af_eg_NoPlace, af_ek_NoPlace, af_ed_NoPlace, af_ea_NoPlace, af_em_NoPlace, (exm_own af_b_NoPlace af_i_NoPlace af_t_NoPlace af_s_NoPlace_NoPlace), (exm_own af_b_RowsError af_i_RowsError af_t_RowsError af_s_NoPlace_RowsError), (kit_own af_i_NoForm af_t_NoForm af_s_NoPlace_NoForm af_s_NoPlace_NoPlace), (kit_blt (by decide +kernel) af_s_NoPlace_ValueError), af_en_, af_et_⟩
  have ebase : mg "law" = some (.ref f_law) := PySem.W.mg_of X G a_law
  have e := hfa.symm.trans ebase
  cases e
  have F_L_pot := fun_mk (st := s_L_pot) l_L_pot c_L_pot k_L_pot
  have b_L_pot := F_L_pot.binds (ps := ["_law_script", "_law_k"]) fun _ _ _ _ _ _ us hl => match us, hl with | [_, _], _ => rfl
  have F_L_digit := fun_mk (st := s_L_digit) l_L_digit c_L_digit k_L_digit
  have b_L_digit := F_L_digit.binds (ps := ["_law_pot_here", "_law_many"]) fun _ _ _ _ _ _ us hl => match us, hl with | [_, _], _ => rfl
  have F_L_mixed := fun_mk (st := s_L_mixed) l_L_mixed c_L_mixed k_L_mixed
  have b_L_mixed := F_L_mixed.binds (ps := ["_law_pot_here", "_law_some"]) fun _ _ _ _ _ _ us hl => match us, hl with | [_, _], _ => rfl
  have F_L_lines := fun_mk (st := s_L_lines) l_L_lines c_L_lines k_L_lines
  have b_L_lines := F_L_lines.binds (ps := ["_law_pot_here"]) fun _ _ _ _ _ _ us hl => match us, hl with | [_], _ => rfl
  have F_L_far := fun_mk (st := s_L_far) l_L_far c_L_far k_L_far
  have b_L_far := F_L_far.binds (ps := ["_law_pot_here"]) fun _ _ _ _ _ _ us hl => match us, hl with | [_], _ => rfl
  have F_L_good := fun_mk (st := s_L_good) l_L_good c_L_good k_L_good
  have b_L_good := F_L_good.binds (ps := ["_law_pot_here"]) fun _ _ _ _ _ _ us hl => match us, hl with | [_], _ => rfl
  have F_L_met := fun_mk (st := s_L_met) l_L_met c_L_met k_L_met
  have b_L_met := F_L_met.binds (ps := ["_law_pot_here", "_law_letter", "_law_number_here"]) fun _ _ _ _ _ _ us hl => match us, hl with | [_, _, _], _ => rfl
  have F_L_twice := fun_mk (st := s_L_twice) l_L_twice c_L_twice k_L_twice
  have b_L_twice := F_L_twice.binds (ps := ["_law_pot_here", "_law_head_here", "_law_tail_here"]) fun _ _ _ _ _ _ us hl => match us, hl with | [_, _, _], _ => rfl
  have F_L_whole := fun_mk (st := s_L_whole) l_L_whole c_L_whole k_L_whole
  have b_L_whole := F_L_whole.binds (ps := ["_law_pot_here", "_law_head_here", "_law_tail_here"]) fun _ _ _ _ _ _ us hl => match us, hl with | [_, _, _], _ => rfl
  have F_L_due := fun_mk (st := s_L_due) l_L_due c_L_due k_L_due
  have b_L_due := F_L_due.binds (ps := ["_law_thing", "_law_whole_here", "_law_bent", "_law_twice_here"]) fun _ _ _ _ _ _ us hl => match us, hl with | [_, _, _, _], _ => rfl
  have F_L_head := fun_mk (st := s_L_head) l_L_head c_L_head k_L_head
  have b_L_head := F_L_head.binds (ps := ["_law_pot_here", "_law_head_here"]) fun _ _ _ _ _ _ us hl => match us, hl with | [_, _], _ => rfl
  have F_L_tail := fun_mk (st := s_L_tail) l_L_tail c_L_tail k_L_tail
  have b_L_tail := F_L_tail.binds (ps := ["_law_pot_here", "_law_tail_here"]) fun _ _ _ _ _ _ us hl => match us, hl with | [_, _], _ => rfl
  have F_is_name := fun_mk (st := s_is_name) l_is_name c_is_name k_is_name
  have b_is_name := F_is_name.binds (ps := ["thing"]) fun _ _ _ _ _ _ us hl => match us, hl with | [_], _ => rfl
  have F_is_letter := fun_mk (st := s_is_letter) l_is_letter c_is_letter k_is_letter
  have b_is_letter := F_is_letter.binds (ps := ["thing"]) fun _ _ _ _ _ _ us hl => match us, hl with | [_], _ => rfl
  have F_is_whole := fun_mk (st := s_is_whole) l_is_whole c_is_whole k_is_whole
  have b_is_whole := F_is_whole.binds (ps := ["thing"]) fun _ _ _ _ _ _ us hl => match us, hl with | [_], _ => rfl
  have F_is_ticket := fun_mk (st := s_is_ticket) l_is_ticket c_is_ticket k_is_ticket
  have b_is_ticket := F_is_ticket.binds (ps := ["thing"]) fun _ _ _ _ _ _ us hl => match us, hl with | [_], _ => rfl
  have F_is_line := fun_mk (st := s_is_line) l_is_line c_is_line k_is_line
  have b_is_line := F_is_line.binds (ps := ["thing"]) fun _ _ _ _ _ _ us hl => match us, hl with | [_], _ => rfl
  have F_are_all := fun_mk (st := s_are_all) l_are_all c_are_all k_are_all
  have b_are_all := F_are_all.binds (ps := ["thing", "judge"]) fun _ _ _ _ _ _ us hl => match us, hl with | [_, _], _ => rfl
  have F_divisor_of := fun_mk (st := s_divisor_of) l_divisor_of c_divisor_of k_divisor_of
  have b_divisor_of := F_divisor_of.binds (ps := ["one", "other"]) fun _ _ _ _ _ _ us hl => match us, hl with | [_, _], _ => rfl
  have F_do_meet := fun_mk (st := s_do_meet) l_do_meet c_do_meet k_do_meet
  have b_do_meet := F_do_meet.binds (ps := ["one", "other"]) fun _ _ _ _ _ _ us hl => match us, hl with | [_, _], _ => rfl
  have F_is_met := fun_mk (st := s_is_met) l_is_met c_is_met k_is_met
  have b_is_met := F_is_met.binds (ps := ["tail", "k"]) fun _ _ _ _ _ _ us hl => match us, hl with | [_, _], _ => rfl
  have F_turn_of := fun_mk (st := s_turn_of) l_turn_of c_turn_of k_turn_of
  have b_turn_of := F_turn_of.binds (ps := ["line", "ticket"]) fun _ _ _ _ _ _ us hl => match us, hl with | [_, _], _ => rfl
  have F_tells := fun_mk (st := s_tells) l_tells c_tells k_tells
  have b_tells := F_tells.binds (ps := ["tail", "ticket"]) fun _ _ _ _ _ _ us hl => match us, hl with | [_, _], _ => rfl
  have F_tells_twice := fun_mk (st := s_tells_twice) l_tells_twice c_tells_twice k_tells_twice
  have b_tells_twice := F_tells_twice.binds (ps := ["head", "tail"]) fun _ _ _ _ _ _ us hl => match us, hl with | [_, _], _ => rfl
  have F_fault_of := fun_mk (st := s_fault_of) l_fault_of c_fault_of k_fault_of
  have b_fault_of := F_fault_of.binds (ps := ["thing"]) fun _ _ _ _ _ _ us hl => match us, hl with | [_], _ => rfl
  have F_want_form := fun_mk (st := s_want_form) l_want_form c_want_form k_want_form
  have b_want_form := F_want_form.binds (ps := ["thing"]) fun _ _ _ _ _ _ us hl => match us, hl with | [_], _ => rfl
  have F_told_at := fun_mk (st := s_told_at) l_told_at c_told_at k_told_at
  have b_told_at := F_told_at.binds (ps := ["line", "turn"]) fun _ _ _ _ _ _ us hl => match us, hl with | [_, _], _ => rfl
  have F_standing := fun_mk (st := s_standing) l_standing c_standing k_standing
  have b_standing := F_standing.binds (ps := ["form", "place"]) fun _ _ _ _ _ _ us hl => match us, hl with | [_, _], _ => rfl
  have F_has_place := fun_mk (st := s_has_place) l_has_place c_has_place k_has_place
  have b_has_place := F_has_place.binds (ps := ["form", "place"]) fun _ _ _ _ _ _ us hl => match us, hl with | [_, _], _ => rfl
  have F_ticket_at := fun_mk (st := s_ticket_at) l_ticket_at c_ticket_at k_ticket_at
  have b_ticket_at := F_ticket_at.binds (ps := ["form", "place"]) fun _ _ _ _ _ _ us hl => match us, hl with | [_, _], _ => rfl
  have F_L_told := fun_mk (st := s_L_told) l_L_told c_L_told k_L_told
  have b_L_told := F_L_told.binds (ps := ["_law_thing", "_law_place"]) fun _ _ _ _ _ _ us hl => match us, hl with | [_, _], _ => rfl
  have F_is_form := fun_mk (st := s_is_form) l_is_form c_is_form k_is_form
  have b_is_form := F_is_form.binds (ps := ["thing"]) fun _ _ _ _ _ _ us hl => match us, hl with | [_], _ => rfl
  have F_law := fun_mk (st := s_law) l_law c_law k_law
  refine ⟨PySem.W.fnOf "law" "law" (defArgs s_law) (defBody s_law) (defScope s_law) .none kV_law dc_law pm_law an_law cd_law ct_law, fun s v => .of_eq rfl, GG K ⟨0, cl_NoForm, cl_RowsError, cl_NoNumber, cl_NoPlace, f_is_ticket, f_is_line⟩, rfl, fun base _ _ => ?_⟩
  have Q_NoForm : XnI P w K mg base cl_NoForm ["what"] ["self", "what"] fi_NoForm _ := ⟨ce.o_NoForm, iC_NoForm, tI_NoForm, xn_NoForm ce li_NoForm ci_NoForm, fun s us _ hl => match us, hl with | [_, _], _ => .of_eq (fd := PySem.W.fnOf "__init__" "NoForm.__init__" (defArgs si_NoForm) (defBody si_NoForm) (defScope si_NoForm) .none kVi_NoForm dci_NoForm pmi_NoForm ani_NoForm cdi_NoForm cti_NoForm) rfl⟩
  have G_L_pot := fn_p (P := P) (w := w) (mg := mg) (base := base) (G := GG K ⟨0, cl_NoForm, cl_RowsError, cl_NoNumber, cl_NoPlace, f_is_ticket, f_is_line⟩) (XR := XR0) (k := 0) F_L_pot sc_L_pot (Φ := P_L_pot) (fun _ _ h => h) (fun cdv A outer s H E hr hg => der_L_pot bn cn ce   cdv A outer s H E hr hg)
  have I_L_pot : FnI P w K mg base "_law_pot" 1 ["_law_script", "_law_k"] (spP (GG K ⟨0, cl_NoForm, cl_RowsError, cl_NoNumber, cl_NoPlace, f_is_ticket, f_is_line⟩) XR0 2 P_L_pot) f_L_pot _ := ⟨G_L_pot, PySem.W.mg_of X G a_L_pot, k_L_pot, b_L_pot⟩
  have G_L_digit := fn_m (P := P) (w := w) (mg := mg) (base := base) (G := GG K ⟨0, cl_NoForm, cl_RowsError, cl_NoNumber, cl_NoPlace, f_is_ticket, f_is_line⟩) (XR := XR0) (k := 0) F_L_digit sc_L_digit (Φ := P_L_digit) (fun _ _ _ h => h) (fun cdv A outer s H E hr hg => der_L_digit bn cn ce   cdv A outer s H E hr hg)
  have I_L_digit : FnI P w K mg base "_law_digit" 1 ["_law_pot_here", "_law_many"] (spM (GG K ⟨0, cl_NoForm, cl_RowsError, cl_NoNumber, cl_NoPlace, f_is_ticket, f_is_line⟩) XR0 2 P_L_digit) f_L_digit _ := ⟨G_L_digit, PySem.W.mg_of X G a_L_digit, k_L_digit, b_L_digit⟩
  have G_L_mixed := fn_m (P := P) (w := w) (mg := mg) (base := base) (G := GG K ⟨0, cl_NoForm, cl_RowsError, cl_NoNumber, cl_NoPlace, f_is_ticket, f_is_line⟩) (XR := XR0) (k := 1) F_L_mixed sc_L_mixed (Φ := P_L_mixed) (fun _ _ _ h => h) (fun cdv A outer s H E hr hg => der_L_mixed bn cn ce I_L_digit  cdv A outer s H E hr hg)
  have I_L_mixed : FnI P w K mg base "_law_mixed" 2 ["_law_pot_here", "_law_some"] (spM (GG K ⟨0, cl_NoForm, cl_RowsError, cl_NoNumber, cl_NoPlace, f_is_ticket, f_is_line⟩) XR0 2 P_L_mixed) f_L_mixed _ := ⟨G_L_mixed, PySem.W.mg_of X G a_L_mixed, k_L_mixed, b_L_mixed⟩
  have G_L_lines := fn_m (P := P) (w := w) (mg := mg) (base := base) (G := GG K ⟨0, cl_NoForm, cl_RowsError, cl_NoNumber, cl_NoPlace, f_is_ticket, f_is_line⟩) (XR := XR0) (k := 2) F_L_lines sc_L_lines (Φ := P_L_lines) (fun _ _ _ h => h) (fun cdv A outer s H E hr hg => der_L_lines bn cn ce I_L_mixed I_L_digit  cdv A outer s H E hr hg)
  have I_L_lines : FnI P w K mg base "_law_lines" 3 ["_law_pot_here"] (spM (GG K ⟨0, cl_NoForm, cl_RowsError, cl_NoNumber, cl_NoPlace, f_is_ticket, f_is_line⟩) XR0 1 P_L_lines) f_L_lines _ := ⟨G_L_lines, PySem.W.mg_of X G a_L_lines, k_L_lines, b_L_lines⟩
  have G_L_far := fn_m (P := P) (w := w) (mg := mg) (base := base) (G := GG K ⟨0, cl_NoForm, cl_RowsError, cl_NoNumber, cl_NoPlace, f_is_ticket, f_is_line⟩) (XR := XR0) (k := 1) F_L_far sc_L_far (Φ := P_L_far) (fun _ _ _ h => h) (fun cdv A outer s H E hr hg => der_L_far bn cn ce I_L_digit  cdv A outer s H E hr hg)
  have I_L_far : FnI P w K mg base "_law_far" 2 ["_law_pot_here"] (spM (GG K ⟨0, cl_NoForm, cl_RowsError, cl_NoNumber, cl_NoPlace, f_is_ticket, f_is_line⟩) XR0 1 P_L_far) f_L_far _ := ⟨G_L_far, PySem.W.mg_of X G a_L_far, k_L_far, b_L_far⟩
  have G_L_good := fn_m (P := P) (w := w) (mg := mg) (base := base) (G := GG K ⟨0, cl_NoForm, cl_RowsError, cl_NoNumber, cl_NoPlace, f_is_ticket, f_is_line⟩) (XR := XR0) (k := 3) F_L_good sc_L_good (Φ := P_L_good) (fun _ _ _ h => h) (fun cdv A outer s H E hr hg => der_L_good bn cn ce I_L_lines I_L_digit I_L_mixed I_L_far  cdv A outer s H E hr hg)
  have I_L_good : FnI P w K mg base "_law_good" 4 ["_law_pot_here"] (spM (GG K ⟨0, cl_NoForm, cl_RowsError, cl_NoNumber, cl_NoPlace, f_is_ticket, f_is_line⟩) XR0 1 P_L_good) f_L_good _ := ⟨G_L_good, PySem.W.mg_of X G a_L_good, k_L_good, b_L_good⟩
  have G_L_met := fn_m (P := P) (w := w) (mg := mg) (base := base) (G := GG K ⟨0, cl_NoForm, cl_RowsError, cl_NoNumber, cl_NoPlace, f_is_ticket, f_is_line⟩) (XR := XR0) (k := 1) F_L_met sc_L_met (Φ := P_L_met) (fun _ _ _ h => h) (fun cdv A outer s H E hr hg => der_L_met bn cn ce I_L_digit  cdv A outer s H E hr hg)
  have I_L_met : FnI P w K mg base "_law_met" 2 ["_law_pot_here", "_law_letter", "_law_number_here"] (spM (GG K ⟨0, cl_NoForm, cl_RowsError, cl_NoNumber, cl_NoPlace, f_is_ticket, f_is_line⟩) XR0 3 P_L_met) f_L_met _ := ⟨G_L_met, PySem.W.mg_of X G a_L_met, k_L_met, b_L_met⟩
  have G_L_twice := fn_m (P := P) (w := w) (mg := mg) (base := base) (G := GG K ⟨0, cl_NoForm, cl_RowsError, cl_NoNumber, cl_NoPlace, f_is_ticket, f_is_line⟩) (XR := XR0) (k := 2) F_L_twice sc_L_twice (Φ := P_L_twice) (fun _ _ _ h => h) (fun cdv A outer s H E hr hg => der_L_twice bn cn ce I_L_digit I_L_met  cdv A outer s H E hr hg)
  have I_L_twice : FnI P w K mg base "_law_twice" 3 ["_law_pot_here", "_law_head_here", "_law_tail_here"] (spM (GG K ⟨0, cl_NoForm, cl_RowsError, cl_NoNumber, cl_NoPlace, f_is_ticket, f_is_line⟩) XR0 3 P_L_twice) f_L_twice _ := ⟨G_L_twice, PySem.W.mg_of X G a_L_twice, k_L_twice, b_L_twice⟩
  have G_L_whole := fn_m (P := P) (w := w) (mg := mg) (base := base) (G := GG K ⟨0, cl_NoForm, cl_RowsError, cl_NoNumber, cl_NoPlace, f_is_ticket, f_is_line⟩) (XR := XR0) (k := 1) F_L_whole sc_L_whole (Φ := P_L_whole) (fun _ _ _ h => h) (fun cdv A outer s H E hr hg => der_L_whole bn cn ce I_L_digit  cdv A outer s H E hr hg)
  have I_L_whole : FnI P w K mg base "_law_whole" 2 ["_law_pot_here", "_law_head_here", "_law_tail_here"] (spM (GG K ⟨0, cl_NoForm, cl_RowsError, cl_NoNumber, cl_NoPlace, f_is_ticket, f_is_line⟩) XR0 3 P_L_whole) f_L_whole _ := ⟨G_L_whole, PySem.W.mg_of X G a_L_whole, k_L_whole, b_L_whole⟩
  have G_L_due := fn_p (P := P) (w := w) (mg := mg) (base := base) (G := GG K ⟨0, cl_NoForm, cl_RowsError, cl_NoNumber, cl_NoPlace, f_is_ticket, f_is_line⟩) (XR := XR0) (k := 0) F_L_due sc_L_due (Φ := P_L_due) (fun _ _ h => h) (fun cdv A outer s H E hr hg => der_L_due bn cn ce   cdv A outer s H E hr hg)
  have I_L_due : FnI P w K mg base "_law_due" 1 ["_law_thing", "_law_whole_here", "_law_bent", "_law_twice_here"] (spP (GG K ⟨0, cl_NoForm, cl_RowsError, cl_NoNumber, cl_NoPlace, f_is_ticket, f_is_line⟩) XR0 4 P_L_due) f_L_due _ := ⟨G_L_due, PySem.W.mg_of X G a_L_due, k_L_due, b_L_due⟩
  have G_L_head := fn_m (P := P) (w := w) (mg := mg) (base := base) (G := GG K ⟨0, cl_NoForm, cl_RowsError, cl_NoNumber, cl_NoPlace, f_is_ticket, f_is_line⟩) (XR := XR0) (k := 1) F_L_head sc_L_head (Φ := P_L_head) (fun _ _ _ h => h) (fun cdv A outer s H E hr hg => der_L_head bn cn ce I_L_digit  cdv A outer s H E hr hg)
  have I_L_head : FnI P w K mg base "_law_head" 2 ["_law_pot_here", "_law_head_here"] (spM (GG K ⟨0, cl_NoForm, cl_RowsError, cl_NoNumber, cl_NoPlace, f_is_ticket, f_is_line⟩) XR0 2 P_L_head) f_L_head _ := ⟨G_L_head, PySem.W.mg_of X G a_L_head, k_L_head, b_L_head⟩
  have G_L_tail := fn_m (P := P) (w := w) (mg := mg) (base := base) (G := GG K ⟨0, cl_NoForm, cl_RowsError, cl_NoNumber, cl_NoPlace, f_is_ticket, f_is_line⟩) (XR := XR0) (k := 1) F_L_tail sc_L_tail (Φ := P_L_tail) (fun _ _ _ h => h) (fun cdv A outer s H E hr hg => der_L_tail bn cn ce I_L_digit  cdv A outer s H E hr hg)
  have I_L_tail : FnI P w K mg base "_law_tail" 2 ["_law_pot_here", "_law_tail_here"] (spM (GG K ⟨0, cl_NoForm, cl_RowsError, cl_NoNumber, cl_NoPlace, f_is_ticket, f_is_line⟩) XR0 2 P_L_tail) f_L_tail _ := ⟨G_L_tail, PySem.W.mg_of X G a_L_tail, k_L_tail, b_L_tail⟩
  have G_is_name := fn_p (P := P) (w := w) (mg := mg) (base := base) (G := GG K ⟨0, cl_NoForm, cl_RowsError, cl_NoNumber, cl_NoPlace, f_is_ticket, f_is_line⟩) (XR := XR0) (k := 0) F_is_name sc_is_name (Φ := P_is_name) (fun _ _ h => h) (fun cdv A outer s H E hr hg => der_is_name bn cn ce   cdv A outer s H E hr hg)
  have I_is_name : FnI P w K mg base "is_name" 1 ["thing"] (spP (GG K ⟨0, cl_NoForm, cl_RowsError, cl_NoNumber, cl_NoPlace, f_is_ticket, f_is_line⟩) XR0 1 P_is_name) f_is_name _ := ⟨G_is_name, PySem.W.mg_of X G a_is_name, k_is_name, b_is_name⟩
  have G_is_letter := fn_p (P := P) (w := w) (mg := mg) (base := base) (G := GG K ⟨0, cl_NoForm, cl_RowsError, cl_NoNumber, cl_NoPlace, f_is_ticket, f_is_line⟩) (XR := XR0) (k := 1) F_is_letter sc_is_letter (Φ := P_is_letter) (fun _ _ h => h) (fun cdv A outer s H E hr hg => der_is_letter bn cn ce I_is_name  cdv A outer s H E hr hg)
  have I_is_letter : FnI P w K mg base "is_letter" 2 ["thing"] (spP (GG K ⟨0, cl_NoForm, cl_RowsError, cl_NoNumber, cl_NoPlace, f_is_ticket, f_is_line⟩) XR0 1 P_is_letter) f_is_letter _ := ⟨G_is_letter, PySem.W.mg_of X G a_is_letter, k_is_letter, b_is_letter⟩
  have G_is_whole := fn_p (P := P) (w := w) (mg := mg) (base := base) (G := GG K ⟨0, cl_NoForm, cl_RowsError, cl_NoNumber, cl_NoPlace, f_is_ticket, f_is_line⟩) (XR := XR0) (k := 0) F_is_whole sc_is_whole (Φ := P_is_whole) (fun _ _ h => h) (fun cdv A outer s H E hr hg => der_is_whole bn cn ce   cdv A outer s H E hr hg)
  have I_is_whole : FnI P w K mg base "is_whole" 1 ["thing"] (spP (GG K ⟨0, cl_NoForm, cl_RowsError, cl_NoNumber, cl_NoPlace, f_is_ticket, f_is_line⟩) XR0 1 P_is_whole) f_is_whole _ := ⟨G_is_whole, PySem.W.mg_of X G a_is_whole, k_is_whole, b_is_whole⟩
  have G_is_ticket := fn_p (P := P) (w := w) (mg := mg) (base := base) (G := GG K ⟨0, cl_NoForm, cl_RowsError, cl_NoNumber, cl_NoPlace, f_is_ticket, f_is_line⟩) (XR := XR0) (k := 2) F_is_ticket sc_is_ticket (Φ := P_is_ticket) (fun _ _ h => h) (fun cdv A outer s H E hr hg => der_is_ticket bn cn ce I_is_letter I_is_whole  cdv A outer s H E hr hg)
  have I_is_ticket : FnI P w K mg base "is_ticket" 3 ["thing"] (spP (GG K ⟨0, cl_NoForm, cl_RowsError, cl_NoNumber, cl_NoPlace, f_is_ticket, f_is_line⟩) XR0 1 P_is_ticket) f_is_ticket _ := ⟨G_is_ticket, PySem.W.mg_of X G a_is_ticket, k_is_ticket, b_is_ticket⟩
  have G_is_line := fn_p (P := P) (w := w) (mg := mg) (base := base) (G := GG K ⟨0, cl_NoForm, cl_RowsError, cl_NoNumber, cl_NoPlace, f_is_ticket, f_is_line⟩) (XR := XR0) (k := 2) F_is_line sc_is_line (Φ := P_is_line) (fun _ _ h => h) (fun cdv A outer s H E hr hg => der_is_line bn cn ce I_is_letter I_is_whole  cdv A outer s H E hr hg)
  have I_is_line : FnI P w K mg base "is_line" 3 ["thing"] (spP (GG K ⟨0, cl_NoForm, cl_RowsError, cl_NoNumber, cl_NoPlace, f_is_ticket, f_is_line⟩) XR0 1 P_is_line) f_is_line _ := ⟨G_is_line, PySem.W.mg_of X G a_is_line, k_is_line, b_is_line⟩
  have G_are_all := fn_p (P := P) (w := w) (mg := mg) (base := base) (G := GG K ⟨0, cl_NoForm, cl_RowsError, cl_NoNumber, cl_NoPlace, f_is_ticket, f_is_line⟩) (XR := XR0) (k := 3) F_are_all sc_are_all (Φ := P_are_all) (fun _ _ h => h) (fun cdv A outer s H E hr hg => der_are_all bn cn ce I_is_ticket I_is_line  cdv A outer s H E hr hg)
  have I_are_all : FnI P w K mg base "are_all" 4 ["thing", "judge"] (spP (GG K ⟨0, cl_NoForm, cl_RowsError, cl_NoNumber, cl_NoPlace, f_is_ticket, f_is_line⟩) XR0 2 P_are_all) f_are_all _ := ⟨G_are_all, PySem.W.mg_of X G a_are_all, k_are_all, b_are_all⟩
  have G_divisor_of := fn_p (P := P) (w := w) (mg := mg) (base := base) (G := GG K ⟨0, cl_NoForm, cl_RowsError, cl_NoNumber, cl_NoPlace, f_is_ticket, f_is_line⟩) (XR := XR0) (k := 0) F_divisor_of sc_divisor_of (Φ := P_divisor_of) (fun _ _ h => h) (fun cdv A outer s H E hr hg => der_divisor_of bn cn ce   cdv A outer s H E hr hg)
  have I_divisor_of : FnI P w K mg base "divisor_of" 1 ["one", "other"] (spP (GG K ⟨0, cl_NoForm, cl_RowsError, cl_NoNumber, cl_NoPlace, f_is_ticket, f_is_line⟩) XR0 2 P_divisor_of) f_divisor_of _ := ⟨G_divisor_of, PySem.W.mg_of X G a_divisor_of, k_divisor_of, b_divisor_of⟩
  have G_do_meet := fn_p (P := P) (w := w) (mg := mg) (base := base) (G := GG K ⟨0, cl_NoForm, cl_RowsError, cl_NoNumber, cl_NoPlace, f_is_ticket, f_is_line⟩) (XR := XR0) (k := 1) F_do_meet sc_do_meet (Φ := P_do_meet) (fun _ _ h => h) (fun cdv A outer s H E hr hg => der_do_meet bn cn ce I_divisor_of  cdv A outer s H E hr hg)
  have I_do_meet : FnI P w K mg base "do_meet" 2 ["one", "other"] (spP (GG K ⟨0, cl_NoForm, cl_RowsError, cl_NoNumber, cl_NoPlace, f_is_ticket, f_is_line⟩) XR0 2 P_do_meet) f_do_meet _ := ⟨G_do_meet, PySem.W.mg_of X G a_do_meet, k_do_meet, b_do_meet⟩
  have G_is_met := fn_p (P := P) (w := w) (mg := mg) (base := base) (G := GG K ⟨0, cl_NoForm, cl_RowsError, cl_NoNumber, cl_NoPlace, f_is_ticket, f_is_line⟩) (XR := XR0) (k := 2) F_is_met sc_is_met (Φ := P_is_met) (fun _ _ h => h) (fun cdv A outer s H E hr hg => der_is_met bn cn ce I_do_meet  cdv A outer s H E hr hg)
  have I_is_met : FnI P w K mg base "is_met" 3 ["tail", "k"] (spP (GG K ⟨0, cl_NoForm, cl_RowsError, cl_NoNumber, cl_NoPlace, f_is_ticket, f_is_line⟩) XR0 2 P_is_met) f_is_met _ := ⟨G_is_met, PySem.W.mg_of X G a_is_met, k_is_met, b_is_met⟩
  have G_turn_of := fn_p (P := P) (w := w) (mg := mg) (base := base) (G := GG K ⟨0, cl_NoForm, cl_RowsError, cl_NoNumber, cl_NoPlace, f_is_ticket, f_is_line⟩) (XR := XR0) (k := 0) F_turn_of sc_turn_of (Φ := P_turn_of) (fun _ _ h => h) (fun cdv A outer s H E hr hg => der_turn_of bn cn ce   cdv A outer s H E hr hg)
  have I_turn_of : FnI P w K mg base "turn_of" 1 ["line", "ticket"] (spP (GG K ⟨0, cl_NoForm, cl_RowsError, cl_NoNumber, cl_NoPlace, f_is_ticket, f_is_line⟩) XR0 2 P_turn_of) f_turn_of _ := ⟨G_turn_of, PySem.W.mg_of X G a_turn_of, k_turn_of, b_turn_of⟩
  have G_tells := fn_p (P := P) (w := w) (mg := mg) (base := base) (G := GG K ⟨0, cl_NoForm, cl_RowsError, cl_NoNumber, cl_NoPlace, f_is_ticket, f_is_line⟩) (XR := XR0) (k := 1) F_tells sc_tells (Φ := P_tells) (fun _ _ h => h) (fun cdv A outer s H E hr hg => der_tells bn cn ce I_turn_of  cdv A outer s H E hr hg)
  have I_tells : FnI P w K mg base "tells" 2 ["tail", "ticket"] (spP (GG K ⟨0, cl_NoForm, cl_RowsError, cl_NoNumber, cl_NoPlace, f_is_ticket, f_is_line⟩) XR0 2 P_tells) f_tells _ := ⟨G_tells, PySem.W.mg_of X G a_tells, k_tells, b_tells⟩
  have G_tells_twice := fn_p (P := P) (w := w) (mg := mg) (base := base) (G := GG K ⟨0, cl_NoForm, cl_RowsError, cl_NoNumber, cl_NoPlace, f_is_ticket, f_is_line⟩) (XR := XR0) (k := 3) F_tells_twice sc_tells_twice (Φ := P_tells_twice) (fun _ _ h => h) (fun cdv A outer s H E hr hg => der_tells_twice bn cn ce I_is_met I_tells  cdv A outer s H E hr hg)
  have I_tells_twice : FnI P w K mg base "tells_twice" 4 ["head", "tail"] (spP (GG K ⟨0, cl_NoForm, cl_RowsError, cl_NoNumber, cl_NoPlace, f_is_ticket, f_is_line⟩) XR0 2 P_tells_twice) f_tells_twice _ := ⟨G_tells_twice, PySem.W.mg_of X G a_tells_twice, k_tells_twice, b_tells_twice⟩
  have G_fault_of := fn_p (P := P) (w := w) (mg := mg) (base := base) (G := GG K ⟨0, cl_NoForm, cl_RowsError, cl_NoNumber, cl_NoPlace, f_is_ticket, f_is_line⟩) (XR := XR0) (k := 4) F_fault_of sc_fault_of (Φ := P_fault_of) (fun _ _ h => h) (fun cdv A outer s H E hr hg => der_fault_of bn cn ce I_are_all I_tells_twice I_is_ticket I_is_line  cdv A outer s H E hr hg)
  have I_fault_of : FnI P w K mg base "fault_of" 5 ["thing"] (spP (GG K ⟨0, cl_NoForm, cl_RowsError, cl_NoNumber, cl_NoPlace, f_is_ticket, f_is_line⟩) XR0 1 P_fault_of) f_fault_of _ := ⟨G_fault_of, PySem.W.mg_of X G a_fault_of, k_fault_of, b_fault_of⟩
  have G_want_form := fn_p (P := P) (w := w) (mg := mg) (base := base) (G := GG K ⟨0, cl_NoForm, cl_RowsError, cl_NoNumber, cl_NoPlace, f_is_ticket, f_is_line⟩) (XR := XR0) (k := 5) F_want_form sc_want_form (Φ := P_want_form) (fun _ _ h => h) (fun cdv A outer s H E hr hg => der_want_form bn cn ce I_fault_of Q_NoForm cdv A outer s H E hr hg)
  have I_want_form : FnI P w K mg base "want_form" 6 ["thing"] (spP (GG K ⟨0, cl_NoForm, cl_RowsError, cl_NoNumber, cl_NoPlace, f_is_ticket, f_is_line⟩) XR0 1 P_want_form) f_want_form _ := ⟨G_want_form, PySem.W.mg_of X G a_want_form, k_want_form, b_want_form⟩
  have G_told_at := fn_p (P := P) (w := w) (mg := mg) (base := base) (G := GG K ⟨0, cl_NoForm, cl_RowsError, cl_NoNumber, cl_NoPlace, f_is_ticket, f_is_line⟩) (XR := XR0) (k := 1) F_told_at sc_told_at (Φ := P_told_at) (fun _ _ h => h) (fun cdv A outer s H E hr hg => der_told_at bn cn ce I_is_whole  cdv A outer s H E hr hg)
  have I_told_at : FnI P w K mg base "told_at" 2 ["line", "turn"] (spP (GG K ⟨0, cl_NoForm, cl_RowsError, cl_NoNumber, cl_NoPlace, f_is_ticket, f_is_line⟩) XR0 2 P_told_at) f_told_at _ := ⟨G_told_at, PySem.W.mg_of X G a_told_at, k_told_at, b_told_at⟩
  have G_standing := fn_p (P := P) (w := w) (mg := mg) (base := base) (G := GG K ⟨0, cl_NoForm, cl_RowsError, cl_NoNumber, cl_NoPlace, f_is_ticket, f_is_line⟩) (XR := XR0) (k := 2) F_standing sc_standing (Φ := P_standing) (fun _ _ h => h) (fun cdv A outer s H E hr hg => der_standing bn cn ce I_told_at  cdv A outer s H E hr hg)
  have I_standing : FnI P w K mg base "standing" 3 ["form", "place"] (spP (GG K ⟨0, cl_NoForm, cl_RowsError, cl_NoNumber, cl_NoPlace, f_is_ticket, f_is_line⟩) XR0 2 P_standing) f_standing _ := ⟨G_standing, PySem.W.mg_of X G a_standing, k_standing, b_standing⟩
  have G_has_place := fn_p (P := P) (w := w) (mg := mg) (base := base) (G := GG K ⟨0, cl_NoForm, cl_RowsError, cl_NoNumber, cl_NoPlace, f_is_ticket, f_is_line⟩) (XR := XR0) (k := 1) F_has_place sc_has_place (Φ := P_has_place) (fun _ _ h => h) (fun cdv A outer s H E hr hg => der_has_place bn cn ce I_is_whole  cdv A outer s H E hr hg)
  have I_has_place : FnI P w K mg base "has_place" 2 ["form", "place"] (spP (GG K ⟨0, cl_NoForm, cl_RowsError, cl_NoNumber, cl_NoPlace, f_is_ticket, f_is_line⟩) XR0 2 P_has_place) f_has_place _ := ⟨G_has_place, PySem.W.mg_of X G a_has_place, k_has_place, b_has_place⟩
  have G_ticket_at := fn_p (P := P) (w := w) (mg := mg) (base := base) (G := GG K ⟨0, cl_NoForm, cl_RowsError, cl_NoNumber, cl_NoPlace, f_is_ticket, f_is_line⟩) (XR := XR0) (k := 6) F_ticket_at sc_ticket_at (Φ := P_ticket_at) (fun _ _ h => h) (fun cdv A outer s H E hr hg => der_ticket_at bn cn ce I_want_form I_standing I_has_place  cdv A outer s H E hr hg)
  have I_ticket_at : FnI P w K mg base "ticket_at" 7 ["form", "place"] (spP (GG K ⟨0, cl_NoForm, cl_RowsError, cl_NoNumber, cl_NoPlace, f_is_ticket, f_is_line⟩) XR0 2 P_ticket_at) f_ticket_at _ := ⟨G_ticket_at, PySem.W.mg_of X G a_ticket_at, k_ticket_at, b_ticket_at⟩
  have G_L_told := fn_p (P := P) (w := w) (mg := mg) (base := base) (G := GG K ⟨0, cl_NoForm, cl_RowsError, cl_NoNumber, cl_NoPlace, f_is_ticket, f_is_line⟩) (XR := XR0) (k := 7) F_L_told sc_L_told (Φ := P_L_told) (fun _ _ h => h) (fun cdv A outer s H E hr hg => der_L_told bn cn ce I_want_form I_ticket_at  cdv A outer s H E hr hg)
  have I_L_told : FnI P w K mg base "_law_told" 8 ["_law_thing", "_law_place"] (spP (GG K ⟨0, cl_NoForm, cl_RowsError, cl_NoNumber, cl_NoPlace, f_is_ticket, f_is_line⟩) XR0 2 P_L_told) f_L_told _ := ⟨G_L_told, PySem.W.mg_of X G a_L_told, k_L_told, b_L_told⟩
  have G_is_form := fn_p (P := P) (w := w) (mg := mg) (base := base) (G := GG K ⟨0, cl_NoForm, cl_RowsError, cl_NoNumber, cl_NoPlace, f_is_ticket, f_is_line⟩) (XR := XR0) (k := 5) F_is_form sc_is_form (Φ := P_is_form) (fun _ _ h => h) (fun cdv A outer s H E hr hg => der_is_form bn cn ce I_fault_of  cdv A outer s H E hr hg)
  have I_is_form : FnI P w K mg base "is_form" 6 ["thing"] (spP (GG K ⟨0, cl_NoForm, cl_RowsError, cl_NoNumber, cl_NoPlace, f_is_ticket, f_is_line⟩) XR0 1 P_is_form) f_is_form _ := ⟨G_is_form, PySem.W.mg_of X G a_is_form, k_is_form, b_is_form⟩
  have G_law := fn_p (P := P) (w := w) (mg := mg) (base := base) (G := GG K ⟨0, cl_NoForm, cl_RowsError, cl_NoNumber, cl_NoPlace, f_is_ticket, f_is_line⟩) (XR := XR0) (k := 8) F_law sc_law (Φ := P_law) (fun _ _ h => h) (fun cdv A outer s H E hr hg => der_law bn cn ce I_L_pot I_L_good I_L_twice I_L_whole I_L_due I_L_head I_L_tail I_L_told I_is_form  cdv A outer s H E hr hg)
  exact G_law
end K16
open PySem PySem.W PyProof.Rows
set_option maxRecDepth 100000 in
set_option maxHeartbeats 0 in
theorem PySem.Challenge.cw_ticketrows_k16_what_is_told_first_holds : PySem.Challenge.rw_ticketrows_k16_what_is_told_first.Holds := by
  w_on; o_law; k_head; (case hw => w_witness2)
  k_fill
  refine Tk.walk_x (l := PySem.Challenge.rw_ticketrows_k16_what_is_told_first) (n := 63) (k := 9) (x := "_law_script") (Φ := K16.P_law) rfl (by decide) rfl ⟨rfl, by decide, by decide⟩ (fun w h Y => PySem.W.kIn_of Y) ?F K16.law_true
  case F =>
    intro w mg fa h KX G hmg
    refine' K16.all_mk KX G hmg ?a_L_pot ?l_L_pot ?c_L_pot ?k_L_pot ?a_L_digit ?l_L_digit ?c_L_digit ?k_L_digit ?a_L_mixed ?l_L_mixed ?c_L_mixed ?k_L_mixed ?a_L_lines ?l_L_lines ?c_L_lines ?k_L_lines ?a_L_far ?l_L_far ?c_L_far ?k_L_far ?a_L_good ?l_L_good ?c_L_good ?k_L_good ?a_L_met ?l_L_met ?c_L_met ?k_L_met ?a_L_twice ?l_L_twice ?c_L_twice ?k_L_twice ?a_L_whole ?l_L_whole ?c_L_whole ?k_L_whole ?a_L_due ?l_L_due ?c_L_due ?k_L_due ?a_L_head ?l_L_head ?c_L_head ?k_L_head ?a_L_tail ?l_L_tail ?c_L_tail ?k_L_tail ?a_is_name ?l_is_name ?c_is_name ?k_is_name ?a_is_letter ?l_is_letter ?c_is_letter ?k_is_letter ?a_is_whole ?l_is_whole ?c_is_whole ?k_is_whole ?a_is_ticket ?l_is_ticket ?c_is_ticket ?k_is_ticket ?a_is_line ?l_is_line ?c_is_line ?k_is_line ?a_are_all ?l_are_all ?c_are_all ?k_are_all ?a_divisor_of ?l_divisor_of ?c_divisor_of ?k_divisor_of ?a_do_meet ?l_do_meet ?c_do_meet ?k_do_meet ?a_is_met ?l_is_met ?c_is_met ?k_is_met ?a_turn_of ?l_turn_of ?c_turn_of ?k_turn_of ?a_tells ?l_tells ?c_tells ?k_tells ?a_tells_twice ?l_tells_twice ?c_tells_twice ?k_tells_twice ?a_fault_of ?l_fault_of ?c_fault_of ?k_fault_of ?a_want_form ?l_want_form ?c_want_form ?k_want_form ?a_told_at ?l_told_at ?c_told_at ?k_told_at ?a_standing ?l_standing ?c_standing ?k_standing ?a_has_place ?l_has_place ?c_has_place ?k_has_place ?a_ticket_at ?l_ticket_at ?c_ticket_at ?k_ticket_at ?a_L_told ?l_L_told ?c_L_told ?k_L_told ?a_is_form ?l_is_form ?c_is_form ?k_is_form ?a_law ?l_law ?c_law ?k_law ?ag_NoForm ?ag_RowsError ?ag_NoNumber ?ag_NoPlace ?lc_NoForm ?rv_NoForm ?iC_NoForm ?tI_NoForm ?li_NoForm ?ci_NoForm ?af_k_NoForm ?af_sa_NoForm ?af_b_NoForm ?af_t_NoForm ?af_n_NoForm_what ?af_sg_RowsError ?af_rd_RowsError ?af_fv_RowsError ?af_eg_NoForm ?af_ek_NoForm ?af_ed_NoForm ?af_ea_NoForm ?af_em_NoForm ?af_b_NoPlace ?af_i_NoPlace ?af_t_NoPlace ?af_s_NoForm_NoPlace ?af_b_RowsError ?af_i_RowsError ?af_t_RowsError ?af_s_NoForm_RowsError ?af_i_NoForm ?af_s_NoForm_NoForm ?af_s_NoForm_ValueError ?af_k_NoNumber ?af_x_NoNumber ?af_b_NoNumber ?af_t_NoNumber ?af_eg_NoNumber ?af_ek_NoNumber ?af_ed_NoNumber ?af_ea_NoNumber ?af_em_NoNumber ?af_s_NoNumber_NoPlace ?af_s_NoNumber_RowsError ?af_s_NoNumber_NoForm ?af_s_NoNumber_NoNumber ?af_s_NoNumber_ValueError ?af_k_NoPlace ?af_x_NoPlace ?af_eg_NoPlace ?af_ek_NoPlace ?af_ed_NoPlace ?af_ea_NoPlace ?af_em_NoPlace ?af_s_NoPlace_NoPlace ?af_s_NoPlace_RowsError ?af_s_NoPlace_NoForm ?af_s_NoPlace_ValueError ?af_en_ ?af_et_ ?ac_LONGEST_NAME ?ac_SMALL ?ac_MOST ?z_len ?z_abs ?z_max ?z_divmod ?z_list ?z_range ?z_int ?z_min ?z_tuple ?z_repr ?z_isinstance ?z_str ?z_all ?z_bool ?z_any ?z_set ?z_ValueError
    (case ag_NoForm => k_is)
    (case ag_RowsError => k_is)
    (case ag_NoNumber => k_is)
    (case ag_NoPlace => k_is)
    (case a_L_pot => k_is)
    (case a_L_digit => k_is)
    (case a_L_mixed => k_is)
    (case a_L_lines => k_is)
    (case a_L_far => k_is)
    (case a_L_good => k_is)
    (case a_L_met => k_is)
    (case a_L_twice => k_is)
    (case a_L_whole => k_is)
    (case a_L_due => k_is)
    (case a_L_head => k_is)
    (case a_L_tail => k_is)
    (case a_is_name => k_is)
    (case a_is_letter => k_is)
    (case a_is_whole => k_is)
    (case a_is_ticket => k_is)
    (case a_is_line => k_is)
    (case a_are_all => k_is)
    (case a_divisor_of => k_is)
    (case a_do_meet => k_is)
    (case a_is_met => k_is)
    (case a_turn_of => k_is)
    (case a_tells => k_is)
    (case a_tells_twice => k_is)
    (case a_fault_of => k_is)
    (case a_want_form => k_is)
    (case a_told_at => k_is)
    (case a_standing => k_is)
    (case a_has_place => k_is)
    (case a_ticket_at => k_is)
    (case a_L_told => k_is)
    (case a_is_form => k_is)
    (case a_law => k_is)
    (case l_L_pot => k_is)
    (case c_L_pot => k_is)
    (case k_L_pot => k_is)
    (case l_L_digit => k_is)
    (case c_L_digit => k_is)
    (case k_L_digit => k_is)
    (case l_L_mixed => k_is)
    (case c_L_mixed => k_is)
    (case k_L_mixed => k_is)
    (case l_L_lines => k_is)
    (case c_L_lines => k_is)
    (case k_L_lines => k_is)
    (case l_L_far => k_is)
    (case c_L_far => k_is)
    (case k_L_far => k_is)
    (case l_L_good => k_is)
    (case c_L_good => k_is)
    (case k_L_good => k_is)
    (case l_L_met => k_is)
    (case c_L_met => k_is)
    (case k_L_met => k_is)
    (case l_L_twice => k_is)
    (case c_L_twice => k_is)
    (case k_L_twice => k_is)
    (case l_L_whole => k_is)
    (case c_L_whole => k_is)
    (case k_L_whole => k_is)
    (case l_L_due => k_is)
    (case c_L_due => k_is)
    (case k_L_due => k_is)
    (case l_L_head => k_is)
    (case c_L_head => k_is)
    (case k_L_head => k_is)
    (case l_L_tail => k_is)
    (case c_L_tail => k_is)
    (case k_L_tail => k_is)
    (case l_is_name => k_is)
    (case c_is_name => k_is)
    (case k_is_name => k_is)
    (case l_is_letter => k_is)
    (case c_is_letter => k_is)
    (case k_is_letter => k_is)
    (case l_is_whole => k_is)
    (case c_is_whole => k_is)
    (case k_is_whole => k_is)
    (case l_is_ticket => k_is)
    (case c_is_ticket => k_is)
    (case k_is_ticket => k_is)
    (case l_is_line => k_is)
    (case c_is_line => k_is)
    (case k_is_line => k_is)
    (case l_are_all => k_is)
    (case c_are_all => k_is)
    (case k_are_all => k_is)
    (case l_divisor_of => k_is)
    (case c_divisor_of => k_is)
    (case k_divisor_of => k_is)
    (case l_do_meet => k_is)
    (case c_do_meet => k_is)
    (case k_do_meet => k_is)
    (case l_is_met => k_is)
    (case c_is_met => k_is)
    (case k_is_met => k_is)
    (case l_turn_of => k_is)
    (case c_turn_of => k_is)
    (case k_turn_of => k_is)
    (case l_tells => k_is)
    (case c_tells => k_is)
    (case k_tells => k_is)
    (case l_tells_twice => k_is)
    (case c_tells_twice => k_is)
    (case k_tells_twice => k_is)
    (case l_fault_of => k_is)
    (case c_fault_of => k_is)
    (case k_fault_of => k_is)
    (case l_want_form => k_is)
    (case c_want_form => k_is)
    (case k_want_form => k_is)
    (case l_told_at => k_is)
    (case c_told_at => k_is)
    (case k_told_at => k_is)
    (case l_standing => k_is)
    (case c_standing => k_is)
    (case k_standing => k_is)
    (case l_has_place => k_is)
    (case c_has_place => k_is)
    (case k_has_place => k_is)
    (case l_ticket_at => k_is)
    (case c_ticket_at => k_is)
    (case k_ticket_at => k_is)
    (case l_L_told => k_is)
    (case c_L_told => k_is)
    (case k_L_told => k_is)
    (case l_is_form => k_is)
    (case c_is_form => k_is)
    (case k_is_form => k_is)
    (case l_law => k_is)
    (case c_law => k_is)
    (case k_law => k_is)
    (case lc_NoForm => k_is)
    (case rv_NoForm => rfl)
    (case iC_NoForm => k_is)
    (case tI_NoForm => k_is)
    (case li_NoForm => k_is)
    (case ci_NoForm => k_is)
    (case af_k_NoForm => k_is)
    (case af_sa_NoForm => k_is)
    (case af_b_NoForm => k_is)
    (case af_t_NoForm => k_is)
    (case af_n_NoForm_what => k_is)
    (case af_sg_RowsError => k_is)
    (case af_rd_RowsError => k_is)
    (case af_fv_RowsError => k_is)
    (case af_eg_NoForm => k_is)
    (case af_ek_NoForm => k_is)
    (case af_ed_NoForm => k_is)
    (case af_ea_NoForm => k_is)
    (case af_em_NoForm => k_is)
    (case af_b_NoPlace => k_is)
    (case af_i_NoPlace => k_is)
    (case af_t_NoPlace => k_is)
    (case af_s_NoForm_NoPlace => k_is)
    (case af_b_RowsError => k_is)
    (case af_i_RowsError => k_is)
    (case af_t_RowsError => k_is)
    (case af_s_NoForm_RowsError => k_is)
    (case af_i_NoForm => k_is)
    (case af_s_NoForm_NoForm => k_is)
    (case af_s_NoForm_ValueError => k_is)
    (case af_k_NoNumber => k_is)
    (case af_x_NoNumber => k_exc)
    (case af_b_NoNumber => k_is)
    (case af_t_NoNumber => k_is)
    (case af_eg_NoNumber => k_is)
    (case af_ek_NoNumber => k_is)
    (case af_ed_NoNumber => k_is)
    (case af_ea_NoNumber => k_is)
    (case af_em_NoNumber => k_is)
    (case af_s_NoNumber_NoPlace => k_is)
    (case af_s_NoNumber_RowsError => k_is)
    (case af_s_NoNumber_NoForm => k_is)
    (case af_s_NoNumber_NoNumber => k_is)
    (case af_s_NoNumber_ValueError => k_is)
    (case af_k_NoPlace => k_is)
    (case af_x_NoPlace => k_exc)
    (case af_eg_NoPlace => k_is)
    (case af_ek_NoPlace => k_is)
    (case af_ed_NoPlace => k_is)
    (case af_ea_NoPlace => k_is)
    (case af_em_NoPlace => k_is)
    (case af_s_NoPlace_NoPlace => k_is)
    (case af_s_NoPlace_RowsError => k_is)
    (case af_s_NoPlace_NoForm => k_is)
    (case af_s_NoPlace_ValueError => k_is)
    (case af_en_ => k_is)
    (case af_et_ => k_is)
    (case ac_LONGEST_NAME => k_is)
    (case ac_SMALL => k_is)
    (case ac_MOST => k_is)
    (case z_len => k_is)
    (case z_abs => k_is)
    (case z_max => k_is)
    (case z_divmod => k_is)
    (case z_list => k_is)
    (case z_range => k_is)
    (case z_int => k_is)
    (case z_min => k_is)
    (case z_tuple => k_is)
    (case z_repr => k_is)
    (case z_isinstance => k_is)
    (case z_str => k_is)
    (case z_all => k_is)
    (case z_bool => k_is)
    (case z_any => k_is)
    (case z_set => k_is)
    (case z_ValueError => k_is)
