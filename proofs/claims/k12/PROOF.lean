import PyProof.Rows.All
import Wide.All
import OpenK.AllK
import Wide.FinOn
import HandS.ForMost
import HandS.Exc
import HandS.EndBits
import HandS.Wide
import HandS.WideBits
import HandS.TupAny
import HandS.TupLe
import HandS.IsInst
import HandS.NoneIn
import PyProof.ReprRoads
import HandS.Deep
import HandS.Text
import HandS.Dict
import HandS.ExcOwn
import KE.KExcIs
import KE.KIsAll
import HandS.ExcIs
import PyProof.ReprBulk
import PySem.Challenge.RW_ticketrows_k12_turns_there_and_back
set_option Elab.async false
set_option linter.all false
set_option maxRecDepth 100000
set_option maxHeartbeats 4000000
/-! Tk1: plain data D, what represents it in an abstract heap, environments with owned cells. -/
namespace Tk
open PySem L2

inductive D where
  | non
  | bl (b : Bool)
  | int (i : Int)
  | str (x : Str)
  | tup (l : List D)
  | lst (l : List D)
  | dct (ks : List Key) (l : List D)
  | obj (c : Nat) (l : List D)
  | fn (n : Nat)
  | scr (ns : List Int)

/-- what is known of the text: the written part, the classes and defs that data may name -/
structure Tb where
  K : PySem.W.Frag
  cls : Nat → Option (Addr × List Str)
  fns : Nat → Option Addr
  /-- the exception that a suite holds: where it lies, its class, its dict -/
  exa : Option (Addr × Value × Option Addr)

abbrev Hid := Addr → Prop
/-- a list that is seen: tracked and not hidden -/
def SeenL (G : Tb) (A : Hid) (H : Hp) (a : Addr) (vs : List V) : Prop := ¬ A a ∧ H a = some (.lst vs)
theorem SeenL.sq {G : Tb} {A : Hid} {H : Hp} {a : Addr} {vs : List V} (h : SeenL G A H a vs) : SqL G.K H a vs := .inl (.inl h.2)
/-- the script -/
def Scr (G : Tb) (A : Hid) (H : Hp) (a : Addr) (vs : List V) : Prop := (¬ A a ∧ ∃ o, H a = some (.frz o (.lst vs))) ∨ SqL G.K (fun _ => none) a vs
theorem Scr.sq {G : Tb} {A : Hid} {H : Hp} {a : Addr} {vs : List V} (h : Scr G A H a vs) : SqL G.K H a vs := by
  rcases h with ⟨_, h⟩ | (h | h)
  · exact .inl (.inr h)
  · rcases h with h | ⟨_, h⟩ <;> cases h
  · exact .inr h

mutual
def RepD (G : Tb) (A : Hid) (H : Hp) : D → V → Prop
  | .non, v => v = .non
  | .bl b, v => v = .bl b
  | .int i, v => v = .int i
  | .str x, v => v = .str x
  | .tup l, v => ∃ a vs, v = .ref a ∧ SqT G.K H a vs ∧ RepDs G A H l vs
  | .lst l, v => ∃ a vs, v = .ref a ∧ SeenL G A H a vs ∧ RepDs G A H l vs
  | .dct ks l, v => ∃ a vs, v = .ref a ∧ ¬ A a ∧ Rd H a (.dK (ks.zip vs)) ∧ ks.length = vs.length ∧ RepDs G A H l vs
  | .obj c l, v => ∃ a C dx ns vs, v = .ref a ∧ ¬ A a ∧ H a = some (.ins C dx (ns.zip vs)) ∧ G.cls c = some (C, ns) ∧ ns.length = vs.length ∧ RepDs G A H l vs
  | .fn n, v => ∃ a, v = .ref a ∧ G.fns n = some a
  | .scr ns, v => ∃ a, v = .ref a ∧ Scr G A H a (ns.map V.int)
def RepDs (G : Tb) (A : Hid) (H : Hp) : List D → List V → Prop
  | [], vs => vs = []
  | d :: ds, vs => ∃ v r, vs = v :: r ∧ RepD G A H d v ∧ RepDs G A H ds r
end

/-- the thing that an address holds, itself hidden -/
def RepTop (G : Tb) (A : Hid) (H : Hp) : D → Addr → Prop
  | .lst l, p => ∃ vs, H p = some (.lst vs) ∧ RepDs G A H l vs
  | .dct ks l, p => ∃ vs, H p = some (.dK (ks.zip vs)) ∧ ks.length = vs.length ∧ RepDs G A H l vs
  | .obj c l, p => ∃ C dx ns vs, H p = some (.ins C dx (ns.zip vs)) ∧ G.cls c = some (C, ns) ∧ ns.length = vs.length ∧ RepDs G A H l vs
  | _, _ => False

/-- what is seen stays -/
def Stab (A : Hid) (H : Hp) (A' : Hid) (H' : Hp) : Prop := ∀ a o, H a = some o → ¬ A a → H' a = some o ∧ ¬ A' a
/-- tuples are never hidden -/
def TupOk (A : Hid) (H : Hp) : Prop := ∀ p, A p → ∃ o, H p = some o ∧ (∀ xs, o ≠ .tup xs) ∧ ∀ o' xs, o ≠ .frz o' (.tup xs)

theorem Stab.refl (A : Hid) (H : Hp) : Stab A H A H := fun _ _ h n => ⟨h, n⟩
theorem Stab.trans {A A1 A2 : Hid} {H H1 H2 : Hp} (x : Stab A H A1 H1) (y : Stab A1 H1 A2 H2) : Stab A H A2 H2 := fun a o h n =>
  let ⟨h1, n1⟩ := x a o h n
  y a o h1 n1

theorem Stab.rd {A A' : Hid} {H H' : Hp} (s : Stab A H A' H') {a : Addr} {u : HO} (n : ¬ A a) (r : Rd H a u) : Rd H' a u ∧ ¬ A' a := by
  rcases r with r | ⟨o, r⟩
  · exact ⟨.inl (s a _ r n).1, (s a _ r n).2⟩
  · exact ⟨.inr ⟨o, (s a _ r n).1⟩, (s a _ r n).2⟩

theorem Stab.sqT {K : PySem.W.Frag} {A A' : Hid} {H H' : Hp} (s : Stab A H A' H') (t : TupOk A H) {a : Addr} {xs : List V} (h : SqT K H a xs) : SqT K H' a xs := by
  rcases h with h | h
  · have n : ¬ A a := fun ha => by
      obtain ⟨o, e, n1, n2⟩ := t a ha
      rcases h with h | ⟨o', h⟩
      · rw [e] at h
        exact n1 _ (Option.some.inj h)
      · rw [e] at h
        exact n2 _ _ (Option.some.inj h)
    exact .inl (s.rd n h).1
  · exact .inr h

mutual
theorem RepD.mono {G : Tb} {A A' : Hid} {H H' : Hp} (s : Stab A H A' H') (t : TupOk A H) : ∀ (d : D) (v : V), RepD G A H d v → RepD G A' H' d v
  | .non, _, h => h
  | .bl _, _, h => h
  | .int _, _, h => h
  | .str _, _, h => h
  | .tup l, _, h => by
    unfold RepD at h ⊢
    obtain ⟨a, vs, e, q, r⟩ := h
    exact ⟨a, vs, e, s.sqT t q, RepDs.mono s t l vs r⟩
  | .lst l, _, h => by
    unfold RepD at h ⊢
    obtain ⟨a, vs, e, q, r⟩ := h
    refine ⟨a, vs, e, ?_, RepDs.mono s t l vs r⟩
    exact ⟨(s a _ q.2 q.1).2, (s a _ q.2 q.1).1⟩
  | .dct ks l, _, h => by
    unfold RepD at h ⊢
    obtain ⟨a, vs, e, n, q, z, r⟩ := h
    exact ⟨a, vs, e, (s.rd n q).2, (s.rd n q).1, z, RepDs.mono s t l vs r⟩
  | .obj c l, _, h => by
    unfold RepD at h ⊢
    obtain ⟨a, C, dx, ns, vs, e, n, q, k, z, r⟩ := h
    exact ⟨a, C, dx, ns, vs, e, (s a _ q n).2, (s a _ q n).1, k, z, RepDs.mono s t l vs r⟩
  | .fn _, _, h => h
  | .scr ns, _, h => by
    unfold RepD at h ⊢
    obtain ⟨a, e, q⟩ := h
    refine ⟨a, e, ?_⟩
    rcases q with ⟨n, o, q⟩ | q
    · exact .inl ⟨(s a _ q n).2, o, (s a _ q n).1⟩
    · exact .inr q
theorem RepDs.mono {G : Tb} {A A' : Hid} {H H' : Hp} (s : Stab A H A' H') (t : TupOk A H) : ∀ (ds : List D) (vs : List V), RepDs G A H ds vs → RepDs G A' H' ds vs
  | [], _, h => h
  | d :: ds, _, h => by
    unfold RepDs at h ⊢
    obtain ⟨v, r, e, q, z⟩ := h
    exact ⟨v, r, e, RepD.mono s t d v q, RepDs.mono s t ds r z⟩
end

theorem RepDs.length {G : Tb} {A : Hid} {H : Hp} : ∀ {ds : List D} {vs : List V}, RepDs G A H ds vs → ds.length = vs.length
  | [], _, h => by
    unfold RepDs at h
    subst h
    rfl
  | d :: ds, _, h => by
    unfold RepDs at h
    obtain ⟨v, r, e, _, z⟩ := h
    subst e
    show ds.length + 1 = r.length + 1
    rw [RepDs.length z]
theorem RepDs.nil {G : Tb} {A : Hid} {H : Hp} : RepDs G A H [] [] := by
  unfold RepDs
  rfl
theorem RepDs.cons {G : Tb} {A : Hid} {H : Hp} {d : D} {v : V} {ds : List D} {vs : List V} (h : RepD G A H d v) (r : RepDs G A H ds vs) : RepDs G A H (d :: ds) (v :: vs) := by
  unfold RepDs
  exact ⟨v, vs, rfl, h, r⟩
theorem RepDs.inv {G : Tb} {A : Hid} {H : Hp} {d : D} {ds : List D} {vs : List V} (h : RepDs G A H (d :: ds) vs) : ∃ v r, vs = v :: r ∧ RepD G A H d v ∧ RepDs G A H ds r := by
  unfold RepDs at h
  exact h
theorem RepDs.inv0 {G : Tb} {A : Hid} {H : Hp} {vs : List V} (h : RepDs G A H [] vs) : vs = [] := by
  unfold RepDs at h
  exact h
theorem RepDs.append {G : Tb} {A : Hid} {H : Hp} : ∀ {ds es : List D} {vs ws : List V}, RepDs G A H ds vs → RepDs G A H es ws → RepDs G A H (ds ++ es) (vs ++ ws)
  | [], _, _, _, h, k => by
    obtain rfl := h.inv0
    exact k
  | d :: ds, _, _, _, h, k => by
    obtain ⟨v, r, rfl, h1, h2⟩ := h.inv
    exact .cons h1 (h2.append k)
theorem RepDs.get {G : Tb} {A : Hid} {H : Hp} : ∀ {ds : List D} {vs : List V} {i : Nat} {d : D}, RepDs G A H ds vs → ds[i]? = some d → ∃ v, vs[i]? = some v ∧ RepD G A H d v
  | [], _, _, _, _, e => by simp at e
  | x :: ds, _, 0, d, h, e => by
    obtain ⟨v, r, rfl, h1, _⟩ := h.inv
    have e' : x = d := Option.some.inj e
    subst e'
    exact ⟨v, rfl, h1⟩
  | x :: ds, _, i + 1, d, h, e => by
    obtain ⟨v, r, rfl, _, h2⟩ := h.inv
    have e' : ds[i]? = some d := e
    obtain ⟨u, k1, k2⟩ := h2.get e'
    exact ⟨u, k1, k2⟩
theorem RepDs.getV {G : Tb} {A : Hid} {H : Hp} {ds : List D} {vs : List V} {i : Nat} {v : V} (h : RepDs G A H ds vs) (e : vs[i]? = some v) : ∃ d, ds[i]? = some d ∧ RepD G A H d v := by
  have hl : i < vs.length := (List.getElem?_eq_some_iff.mp e).1
  have hd : i < ds.length := by
    rw [h.length]
    exact hl
  obtain ⟨u, k1, k2⟩ := h.get (List.getElem?_eq_getElem hd)
  rw [e] at k1
  cases k1
  exact ⟨_, List.getElem?_eq_getElem hd, k2⟩
theorem RepDs.take {G : Tb} {A : Hid} {H : Hp} : ∀ {ds : List D} {vs : List V} (n : Nat), RepDs G A H ds vs → RepDs G A H (ds.take n) (vs.take n)
  | [], _, n, h => by
    obtain rfl := h.inv0
    cases n <;> exact .nil
  | d :: ds, _, 0, h => by
    obtain ⟨v, r, rfl, _, _⟩ := h.inv
    exact .nil
  | d :: ds, _, n + 1, h => by
    obtain ⟨v, r, rfl, h1, h2⟩ := h.inv
    exact .cons h1 (h2.take n)
theorem RepDs.drop {G : Tb} {A : Hid} {H : Hp} : ∀ {ds : List D} {vs : List V} (n : Nat), RepDs G A H ds vs → RepDs G A H (ds.drop n) (vs.drop n)
  | [], _, n, h => by
    obtain rfl := h.inv0
    cases n <;> exact .nil
  | d :: ds, _, 0, h => h
  | d :: ds, _, n + 1, h => by
    obtain ⟨v, r, rfl, h1, h2⟩ := h.inv
    exact h2.drop n
theorem RepDs.set {G : Tb} {A : Hid} {H : Hp} {d : D} {v : V} (hd : RepD G A H d v) : ∀ {ds : List D} {vs : List V} (n : Nat), RepDs G A H ds vs → RepDs G A H (ds.set n d) (vs.set n v)
  | [], _, n, h => by
    obtain rfl := h.inv0
    exact .nil
  | _ :: ds, _, 0, h => by
    obtain ⟨_, r, rfl, _, h2⟩ := h.inv
    exact .cons hd h2
  | _ :: ds, _, n + 1, h => by
    obtain ⟨_, r, rfl, h1, h2⟩ := h.inv
    exact .cons h1 (RepDs.set hd n h2)
theorem RepDs.eraseIdx {G : Tb} {A : Hid} {H : Hp} : ∀ {ds : List D} {vs : List V} (n : Nat), RepDs G A H ds vs → RepDs G A H (ds.eraseIdx n) (vs.eraseIdx n)
  | [], _, n, h => by
    obtain rfl := h.inv0
    exact .nil
  | _ :: ds, _, 0, h => by
    obtain ⟨_, r, rfl, _, h2⟩ := h.inv
    exact h2
  | _ :: ds, _, n + 1, h => by
    obtain ⟨_, r, rfl, h1, h2⟩ := h.inv
    exact .cons h1 (RepDs.eraseIdx n h2)

theorem RepTop.mono {G : Tb} {A A' : Hid} {H H' : Hp} (s : Stab A H A' H') (t : TupOk A H) {d : D} {p : Addr} (k : ∀ o, H p = some o → H' p = some o) (h : RepTop G A H d p) : RepTop G A' H' d p := by
  cases d with
  | lst l =>
    obtain ⟨vs, e, r⟩ := h
    exact ⟨vs, k _ e, r.mono s t⟩
  | dct ks l =>
    obtain ⟨vs, e, z, r⟩ := h
    exact ⟨vs, k _ e, z, r.mono s t⟩
  | obj c l =>
    obtain ⟨C, dx, ns, vs, e, c, z, r⟩ := h
    exact ⟨C, dx, ns, vs, k _ e, c, z, r.mono s t⟩
  | non => exact h
  | bl _ => exact h
  | int _ => exact h
  | str _ => exact h
  | tup _ => exact h
  | fn _ => exact h
  | scr _ => exact h
/-- unhidden, it is data -/
theorem RepTop.dat {G : Tb} {A : Hid} {H : Hp} {d : D} {p : Addr} (n : ¬ A p) (h : RepTop G A H d p) : RepD G A H d (.ref p) := by
  cases d with
  | lst l =>
    obtain ⟨vs, e, r⟩ := h
    unfold RepD
    exact ⟨p, vs, rfl, ⟨n, e⟩, r⟩
  | dct ks l =>
    obtain ⟨vs, e, z, r⟩ := h
    unfold RepD
    exact ⟨p, vs, rfl, n, .inl e, z, r⟩
  | obj c l =>
    obtain ⟨C, dx, ns, vs, e, c, z, r⟩ := h
    unfold RepD
    exact ⟨p, C, dx, ns, vs, rfl, n, e, c, z, r⟩
  | non => exact h.elim
  | bl _ => exact h.elim
  | int _ => exact h.elim
  | str _ => exact h.elim
  | tup _ => exact h.elim
  | fn _ => exact h.elim
  | scr _ => exact h.elim
theorem RepTop.some {G : Tb} {A : Hid} {H : Hp} {d : D} {p : Addr} (h : RepTop G A H d p) : ∃ o, H p = Option.some o ∧ (∀ xs, o ≠ .tup xs) ∧ ∀ o' xs, o ≠ .frz o' (.tup xs) := by
  cases d with
  | lst l =>
    obtain ⟨vs, e, r⟩ := h
    exact ⟨_, e, (fun _ z => by cases z), (fun _ _ z => by cases z)⟩
  | dct ks l =>
    obtain ⟨vs, e, z, r⟩ := h
    exact ⟨_, e, (fun _ z => by cases z), (fun _ _ z => by cases z)⟩
  | obj c l =>
    obtain ⟨C, dx, ns, vs, e, c, z, r⟩ := h
    exact ⟨_, e, (fun _ z => by cases z), (fun _ _ z => by cases z)⟩
  | non => exact h.elim
  | bl _ => exact h.elim
  | int _ => exact h.elim
  | str _ => exact h.elim
  | tup _ => exact h.elim
  | fn _ => exact h.elim
  | scr _ => exact h.elim

/-! ### environments -/
/-- an exception: its class by number, its fields -/
structure Exc where
  cls : Nat
  fs : List D
inductive Cell where
  | dat (d : D)
  | own (d : D)
  | exc (x : Exc)
/-- an exception's fields lie in its dict -/
def XFs (G : Tb) (A : Hid) (H : Hp) (x : Exc) (d : Option Addr) : Prop := (x.fs = [] ∧ d = none) ∨ ∃ C ns p vs, d = some p ∧ ¬ A p ∧ G.cls x.cls = some (C, ns) ∧ H p = some (.xd (ns.zip vs)) ∧ ns.length = vs.length ∧ RepDs G A H x.fs vs
theorem XFs.mono {G : Tb} {A A' : Hid} {H H' : Hp} (s : Stab A H A' H') (t : TupOk A H) {x : Exc} {d : Option Addr} (h : XFs G A H x d) : XFs G A' H' x d := by
  rcases h with h | ⟨C, ns, p, vs, e, n, c, hp, l, r⟩
  · exact .inl h
  · exact .inr ⟨C, ns, p, vs, e, (s p _ hp n).2, c, (s p _ hp n).1, l, r.mono s t⟩
abbrev Env := List (Option Cell)

def CellOk (G : Tb) (A : Hid) (H : Hp) : Cell → V → Prop
  | .dat d, v => RepD G A H d v
  | .own d, v => ∃ p, v = .ref p ∧ A p ∧ RepTop G A H d p
  | .exc x, v => ∃ a C d ns, v = .ref a ∧ G.exa = some (a, .ref C, d) ∧ G.cls x.cls = some (C, ns) ∧ XFs G A H x d
theorem CellOk.exc_mono {G : Tb} {A A' : Hid} {H H' : Hp} (s : Stab A H A' H') (t : TupOk A H) {x : Exc} {v : V} (h : CellOk G A H (.exc x) v) : CellOk G A' H' (.exc x) v := by
  obtain ⟨a, C, d, ns, e1, e2, e3, f⟩ := h
  exact ⟨a, C, d, ns, e1, e2, e3, f.mono s t⟩

def Own (σ : St) (env : Env) : Hid := fun p => ∃ (i : Nat) (d : D), env[i]? = some (some (.own d)) ∧ σ[i]? = some (some (.ref p))

structure Rep (G : Tb) (A : Hid) (σ : St) (H : Hp) (env : Env) : Prop where
  len : env.length = σ.length
  tup : TupOk A H
  cell : ∀ (i : Nat) c, env[i]? = some (some c) → ∃ v, σ[i]? = some (some v) ∧ CellOk G A H c v
  inj : ∀ (i j : Nat) d e v, env[i]? = some (some (.own d)) → env[j]? = some (some (.own e)) → σ[i]? = some (some v) → σ[j]? = some (some v) → i = j

theorem Rep.own_hid {G : Tb} {A : Hid} {σ : St} {H : Hp} {env : Env} (R : Rep G A σ H env) {p : Addr} (o : Own σ env p) : A p := by
  obtain ⟨i, d, e1, e2⟩ := o
  obtain ⟨v, e3, q, e4, h, _⟩ := R.cell i _ e1
  rw [e2] at e3
  cases e3
  cases e4
  exact h

/-- from one state to a later one: what isn't own is as it was -/
structure Fr (O A : Hid) (H : Hp) (O' A' : Hid) (H' : Hp) : Prop where
  keep : ∀ a o, H a = some o → ¬ O a → H' a = some o ∧ (A' a ↔ A a)
  own : ∀ p, O' p → O p ∨ H p = none
  dom : ∀ a o, H a = some o → ∃ o', H' a = some o'

theorem Fr.refl (O A : Hid) (H : Hp) : Fr O A H O A H := ⟨fun _ _ h _ => ⟨h, Iff.rfl⟩, fun _ h => .inl h, fun _ o h => ⟨o, h⟩⟩
theorem Fr.trans {O A O1 A1 O2 A2 : Hid} {H H1 H2 : Hp} (x : Fr O A H O1 A1 H1) (y : Fr O1 A1 H1 O2 A2 H2) : Fr O A H O2 A2 H2 := by
  refine ⟨fun a o h n => ?_, fun p hp => ?_, fun a o h => ?_⟩
  · obtain ⟨h1, i1⟩ := x.keep a o h n
    have n1 : ¬ O1 a := fun z => by
      rcases x.own a z with q | q
      · exact n q
      · rw [h] at q
        cases q
    obtain ⟨h2, i2⟩ := y.keep a o h1 n1
    exact ⟨h2, i2.trans i1⟩
  · rcases y.own p hp with q | q
    · exact x.own p q
    · refine .inr ?_
      cases z : H p with
      | none => rfl
      | some o =>
        obtain ⟨o', e⟩ := x.dom p o z
        rw [e] at q
        cases q
  · obtain ⟨o1, h1⟩ := x.dom a o h
    exact y.dom a o1 h1
theorem Fr.stab {O A O' A' : Hid} {H H' : Hp} (x : Fr O A H O' A' H') (h : ∀ p, O p → A p) : Stab A H A' H' := fun a o e n =>
  let ⟨h1, i1⟩ := x.keep a o e fun z => n (h a z)
  ⟨h1, fun z => n (i1.mp z)⟩
theorem Fr.none {O A O' A' : Hid} {H H' : Hp} (x : Fr O A H O' A' H') {p : Addr} (h : H' p = Option.none) : H p = Option.none := by
  cases z : H p with
  | none => rfl
  | some o =>
    obtain ⟨o', e⟩ := x.dom p o z
    rw [e] at h
    cases h

/-! ### what an expression gives -/
inductive Out where
  | dat (d : D)
  | fresh (d : D)
  | slot (i : Nat)
/-- H0: the heap ahead of the expression -/
def OutOk (G : Tb) (H0 : Hp) (A : Hid) (σ : St) (H : Hp) (env : Env) : Out → V → Prop
  | .dat d, v => RepD G A H d v
  | .fresh d, v => ∃ p, v = .ref p ∧ H0 p = none ∧ A p ∧ ¬ Own σ env p ∧ RepTop G A H d p
  | .slot i, v => σ[i]? = some (some v)

inductive Rs (α : Type) where
  | ok (a : α) (env : Env)
  | ex (x : Exc) (env : Env)
abbrev EF := Env → Option (Rs Out)

def bd {α β : Type} (r : Option (Rs α)) (k : α → Env → Option (Rs β)) : Option (Rs β) :=
  match r with
  | some (.ok a e) => k a e
  | some (.ex x e) => some (.ex x e)
  | none => none
theorem bd_ok {α β : Type} {a : α} {e : Env} {k : α → Env → Option (Rs β)} : bd (some (.ok a e)) k = k a e := rfl
theorem bd_ex {α β : Type} {x : Exc} {e : Env} {k : α → Env → Option (Rs β)} : bd (some (.ex x e)) k = some (.ex x e) := rfl
theorem bd_none {α β : Type} {k : α → Env → Option (Rs β)} : bd none k = none := rfl

/-- how an exception of the table looks: its class, its own dict, the heap -/
abbrev XW := Tb → Exc → Value → Option Addr → Hid → Hp → Prop

/-- the usual one -/
def XRx : XW := fun G x c d A H => ∃ C ns, G.cls x.cls = some (C, ns) ∧ c = .ref C ∧ XFs G A H x d

/-- the wish behind an evaluation that began at (A, H, env) -/
def Post {α : Type} (G : Tb) (XR : XW) (W : WX) (σ : St) (A : Hid) (H : Hp) (env : Env) (K : α → Env → Hid → Hp → Prop) : Option (Rs α) → Prop
  | none => False
  | some (.ok a env') => ∀ A' H', Rep G A' σ H' env' → Fr (Own σ env) A H (Own σ env') A' H' → K a env' A' H'
  | some (.ex x env') => ∀ A' H' c d, Rep G A' σ H' env' → Fr (Own σ env) A H (Own σ env') A' H' → XR G x c d A' H' → W c d σ H'

theorem Post.imp {α : Type} {G : Tb} {XR : XW} {W : WX} {σ : St} {A A1 : Hid} {H H1 : Hp} {env env1 : Env} {K K' : α → Env → Hid → Hp → Prop} (f : Fr (Own σ env) A H (Own σ env1) A1 H1)
    (h : ∀ a e A' H', Fr (Own σ env1) A1 H1 (Own σ e) A' H' → K a e A' H' → K' a e A' H') : ∀ {r : Option (Rs α)}, Post G XR W σ A H env K r → Post G XR W σ A1 H1 env1 K' r
  | none, q => q
  | some (.ok a e), q => fun A' H' R F => h a e A' H' F (q A' H' R (f.trans F))
  | some (.ex x e), q => fun A' H' c d R F X => q A' H' c d R (f.trans F) X

end Tk
/-! Tk2: expressions. -/
namespace Tk
open PySem L2

/-! ### small words -/
theorem PE_imp {X : Cx} {e : Expr} {t t' : TE} (h : PE X e t) (i : ∀ σ H Q, t' σ H Q → t σ H Q) : PE X e t' := ⟨fun pins s σ H Q I q => h.run pins s σ H Q I (i σ H Q q)⟩
theorem PT_imp {X : Cx} {e : Expr} {t t' : TT} (h : PT X e t) (i : ∀ σ H Q, t' σ H Q → t σ H Q) : PT X e t' := ⟨fun pins s σ H Q I q => h.run pins s σ H Q I (i σ H Q q)⟩
theorem PW_imp {X : Cx} {e : Expr} {t t' : TT} (h : PW X e t) (i : ∀ σ H Q, t' σ H Q → t σ H Q) : PW X e t' := ⟨fun wh pins s σ H Q I q => h.run wh pins s σ H Q I (i σ H Q q)⟩
theorem PA_imp {X : Cx} {e : List Expr} {t t' : TA} (h : PA X e t) (i : ∀ σ H Q, t' σ H Q → t σ H Q) : PA X e t' := ⟨fun pos pins s σ H Q I q => h.run pos pins s σ H Q I (i σ H Q q)⟩
theorem PS_imp {X : Cx} {e : Stmt} {t t' : TS} (h : PS X e t) (i : ∀ D σ H, t' D σ H → t D σ H) : PS X e t' := ⟨fun pins s σ H D I q => h.run pins s σ H D I (i D σ H q)⟩
theorem PSs_imp {X : Cx} {e : List Stmt} {t t' : TS} (h : PSs X e t) (i : ∀ D σ H, t' D σ H → t D σ H) : PSs X e t' := ⟨fun pins s σ H D I q => h.run pins s σ H D I (i D σ H q)⟩

structure Good (G : Tb) (X : Cx) : Prop where
  calm : X.calm = true
  kk : X.K = G.K
  nd : X.N.Nodup
  un : X.A.units + 150 < cLine
  gu : X.A.guards = some []

/-- what comes out of an operation -/
inductive RV where
  | dat (d : D)
  | fresh (d : D)
def RV.out : RV → Out
  | .dat d => .dat d
  | .fresh d => .fresh d

def peek (env : Env) : Out → Option D
  | .dat d => some d
  | .fresh d => some d
  | .slot i => match env[i]? with
    | some (some (.dat d)) => some d
    | some (some (.own d)) => some d
    | _ => none

/-- data, its top perhaps hidden -/
def RepT (G : Tb) (A : Hid) (H : Hp) (d : D) (v : V) : Prop := RepD G A H d v ∨ ∃ p, v = .ref p ∧ A p ∧ RepTop G A H d p

structure Ext (A : Hid) (H : Hp) (A' : Hid) (H' : Hp) : Prop where
  same : ∀ a o, H a = some o → H' a = some o ∧ (A' a ↔ A a)
  tup : TupOk A' H'
theorem Ext.stab {A A' : Hid} {H H' : Hp} (x : Ext A H A' H') : Stab A H A' H' := fun a o e n => ⟨(x.same a o e).1, fun z => n ((x.same a o e).2.mp z)⟩
theorem Ext.refl {A : Hid} {H : Hp} (t : TupOk A H) : Ext A H A H := ⟨fun _ _ h => ⟨h, Iff.rfl⟩, t⟩

def RvOk (G : Tb) (H : Hp) (A' : Hid) (H' : Hp) : RV → V → Prop
  | .dat d, v => RepD G A' H' d v
  | .fresh d, v => ∃ p, v = .ref p ∧ H p = none ∧ A' p ∧ RepTop G A' H' d p

section
variable {G : Tb} {A A' : Hid} {σ : St} {H H' H0 : Hp} {env : Env}

theorem peek_ok {o : Out} {v : V} {d : D} (R : Rep G A σ H env) (h : OutOk G H0 A σ H env o v) (e : peek env o = some d) : RepT G A H d v := by
  cases o with
  | dat d' =>
    have e' : d' = d := Option.some.inj e
    subst e'
    exact .inl h
  | fresh d' =>
    have e' : d' = d := Option.some.inj e
    subst e'
    obtain ⟨p, e1, _, a, _, t⟩ := h
    exact .inr ⟨p, e1, a, t⟩
  | slot i =>
    have h : σ[i]? = some (some v) := h
    unfold peek at e
    simp only at e
    split at e
    · rename_i d' e1
      have e' : d' = d := Option.some.inj e
      subst e'
      obtain ⟨u, e2, c⟩ := R.cell i _ e1
      rw [h] at e2
      cases e2
      exact .inl c
    · rename_i d' e1
      have e' : d' = d := Option.some.inj e
      subst e'
      obtain ⟨u, e2, p, e3, a, t⟩ := R.cell i _ e1
      rw [h] at e2
      cases e2
      exact .inr ⟨p, e3, a, t⟩
    · cases e

theorem Rep.own_some (R : Rep G A σ H env) {p : Addr} (o : Own σ env p) : ∃ x, H p = some x := by
  obtain ⟨x, e, _⟩ := R.tup p (R.own_hid o)
  exact ⟨x, e⟩

theorem Ext.rep (x : Ext A H A' H') (R : Rep G A σ H env) : Rep G A' σ H' env := by
  refine ⟨R.len, x.tup, fun i c e => ?_, R.inj⟩
  obtain ⟨v, e1, k⟩ := R.cell i c e
  refine ⟨v, e1, ?_⟩
  cases c with
  | dat d => exact RepD.mono x.stab R.tup d v k
  | exc y => exact CellOk.exc_mono x.stab R.tup k
  | own d =>
    obtain ⟨p, e2, a, t⟩ := k
    obtain ⟨o, e3, _⟩ := R.tup p a
    exact ⟨p, e2, (x.same p o e3).2.mpr a, t.mono x.stab R.tup fun o' q => (x.same p o' q).1⟩
theorem Ext.fr (x : Ext A H A' H') (O : Hid) : Fr O A H O A' H' := ⟨fun a o h _ => x.same a o h, fun p h => .inl h, fun a o h => ⟨o, (x.same a o h).1⟩⟩

theorem OutOk.mono {A1 A2 : Hid} {H1 H2 : Hp} {env1 env2 : Env} {o : Out} {v : V} (R1 : Rep G A1 σ H1 env1) (f : Fr (Own σ env1) A1 H1 (Own σ env2) A2 H2) (h : OutOk G H0 A1 σ H1 env1 o v) : OutOk G H0 A2 σ H2 env2 o v := by
  have s : Stab A1 H1 A2 H2 := f.stab fun p q => R1.own_hid q
  cases o with
  | dat d => exact RepD.mono s R1.tup d v h
  | fresh d =>
    obtain ⟨p, e1, e2, a, n, t⟩ := h
    obtain ⟨o, e3, _⟩ := R1.tup p a
    refine ⟨p, e1, e2, (f.keep p o e3 n).2.mpr a, fun z => ?_, t.mono s R1.tup fun o' q => (f.keep p o' q n).1⟩
    rcases f.own p z with q | q
    · exact n q
    · rw [e3] at q
      cases q
  | slot i => exact h
/-- an earlier heap ahead -/
theorem OutOk.base {H1 : Hp} {o : Out} {v : V} (k : ∀ p, H0 p = none → H1 p = none) (h : OutOk G H0 A σ H env o v) : OutOk G H1 A σ H env o v := by
  cases o with
  | dat d => exact h
  | fresh d =>
    obtain ⟨p, e1, e2, r⟩ := h
    exact ⟨p, e1, k p e2, r⟩
  | slot i => exact h
theorem RvOk.out {rv : RV} {v : V} (R : Rep G A σ H env) (k : ∀ p, H p = none → H0 p = none) (h : RvOk G H A' H' rv v) : OutOk G H0 A' σ H' env rv.out v := by
  cases rv with
  | dat d => exact h
  | fresh d =>
    obtain ⟨p, e1, e2, a, t⟩ := h
    refine ⟨p, e1, k p e2, a, fun z => ?_, t⟩
    obtain ⟨x, e⟩ := R.own_some z
    rw [e2] at e
    cases e
end

/-! ### readings -/
section
variable (G : Tb) (XR : XW) (W : WX)
def tEv (f : EF) : TE := fun σ H Q => ∃ A env, Rep G A σ H env ∧ Post G XR W σ A H env (fun o e A' H' => ∀ v, OutOk G H A' σ H' e o v → Q v H') (f env)
abbrev UF := Env → Option (Rs D)
abbrev AF := Env → Option (Rs (List D))
abbrev TF := Env → Option (Rs Bool)
def tEvU (f : UF) : TE := fun σ H Q => ∃ A env, Rep G A σ H env ∧ Post G XR W σ A H env (fun d _ A' H' => ∀ v, RepD G A' H' d v → Q v H') (f env)
def tEvA (f : AF) : TA := fun σ H Q => ∃ A env, Rep G A σ H env ∧ Post G XR W σ A H env (fun ds _ A' H' => ∀ vs, RepDs G A' H' ds vs → Q vs H') (f env)
def tEvT (f : TF) : TT := fun σ H Q => ∃ A env, Rep G A σ H env ∧ Post G XR W σ A H env (fun b _ _ H' => Q b H') (f env)
end

section
variable {G : Tb} {XR : XW} {W : WX} {X : Cx}

/-- one after another -/
theorem ev_seq {β : Type} {f : EF} {k : Out → Env → Option (Rs β)} {KK : β → Env → Hid → Hp → Prop} {σ : St} {A : Hid} {H : Hp} {env : Env} (R : Rep G A σ H env) (p : Post G XR W σ A H env KK (bd (f env) k)) :
    tEv G XR W f σ H (fun x H1 => ∃ A1 env1 o1, Rep G A1 σ H1 env1 ∧ OutOk G H A1 σ H1 env1 o1 x ∧ Fr (Own σ env) A H (Own σ env1) A1 H1 ∧ Post G XR W σ A1 H1 env1 KK (k o1 env1)) := by
  refine ⟨A, env, R, ?_⟩
  cases hf : f env with
  | none =>
    rw [hf] at p
    exact p
  | some r =>
    rw [hf] at p
    cases r with
    | ok o e1 => exact fun A1 H1 R1 F1 v ov => ⟨A1, e1, o, R1, ov, F1, Post.imp F1 (fun _ _ _ _ _ q => q) p⟩
    | ex x e1 => exact p
theorem evU_seq {β : Type} {f : UF} {k : D → Env → Option (Rs β)} {KK : β → Env → Hid → Hp → Prop} {σ : St} {A : Hid} {H : Hp} {env : Env} (R : Rep G A σ H env) (p : Post G XR W σ A H env KK (bd (f env) k)) :
    tEvU G XR W f σ H (fun x H1 => ∃ A1 env1 d1, Rep G A1 σ H1 env1 ∧ RepD G A1 H1 d1 x ∧ Fr (Own σ env) A H (Own σ env1) A1 H1 ∧ Post G XR W σ A1 H1 env1 KK (k d1 env1)) := by
  refine ⟨A, env, R, ?_⟩
  cases hf : f env with
  | none =>
    rw [hf] at p
    exact p
  | some r =>
    rw [hf] at p
    cases r with
    | ok o e1 => exact fun A1 H1 R1 F1 v ov => ⟨A1, e1, o, R1, ov, F1, Post.imp F1 (fun _ _ _ _ _ q => q) p⟩
    | ex x e1 => exact p
theorem evA_seq {β : Type} {f : AF} {k : List D → Env → Option (Rs β)} {KK : β → Env → Hid → Hp → Prop} {σ : St} {A : Hid} {H : Hp} {env : Env} (R : Rep G A σ H env) (p : Post G XR W σ A H env KK (bd (f env) k)) :
    tEvA G XR W f σ H (fun x H1 => ∃ A1 env1 d1, Rep G A1 σ H1 env1 ∧ RepDs G A1 H1 d1 x ∧ Fr (Own σ env) A H (Own σ env1) A1 H1 ∧ Post G XR W σ A1 H1 env1 KK (k d1 env1)) := by
  refine ⟨A, env, R, ?_⟩
  cases hf : f env with
  | none =>
    rw [hf] at p
    exact p
  | some r =>
    rw [hf] at p
    cases r with
    | ok o e1 => exact fun A1 H1 R1 F1 v ov => ⟨A1, e1, o, R1, ov, F1, Post.imp F1 (fun _ _ _ _ _ q => q) p⟩
    | ex x e1 => exact p
theorem evT_seq {β : Type} {f : TF} {k : Bool → Env → Option (Rs β)} {KK : β → Env → Hid → Hp → Prop} {σ : St} {A : Hid} {H : Hp} {env : Env} (R : Rep G A σ H env) (p : Post G XR W σ A H env KK (bd (f env) k)) :
    tEvT G XR W f σ H (fun b H1 => ∃ A1 env1, Rep G A1 σ H1 env1 ∧ Fr (Own σ env) A H (Own σ env1) A1 H1 ∧ Post G XR W σ A1 H1 env1 KK (k b env1)) := by
  refine ⟨A, env, R, ?_⟩
  cases hf : f env with
  | none =>
    rw [hf] at p
    exact p
  | some r =>
    rw [hf] at p
    cases r with
    | ok o e1 => exact fun A1 H1 R1 F1 => ⟨A1, e1, R1, F1, Post.imp F1 (fun _ _ _ _ _ q => q) p⟩
    | ex x e1 => exact p

/-- readings grow with the wish -/
theorem tEv.imp {f : EF} {σ : St} {H : Hp} {Q Q' : VK} (h : tEv G XR W f σ H Q) (i : ∀ v H', Q v H' → Q' v H') : tEv G XR W f σ H Q' := by
  obtain ⟨A, env, R, p⟩ := h
  exact ⟨A, env, R, Post.imp (Fr.refl _ _ _) (fun _ _ _ _ _ q v o => i _ _ (q v o)) p⟩
theorem tEvU.imp {f : UF} {σ : St} {H : Hp} {Q Q' : VK} (h : tEvU G XR W f σ H Q) (i : ∀ v H', Q v H' → Q' v H') : tEvU G XR W f σ H Q' := by
  obtain ⟨A, env, R, p⟩ := h
  exact ⟨A, env, R, Post.imp (Fr.refl _ _ _) (fun _ _ _ _ _ q v o => i _ _ (q v o)) p⟩
theorem tEvA.imp {f : AF} {σ : St} {H : Hp} {Q Q' : List V → Hp → Prop} (h : tEvA G XR W f σ H Q) (i : ∀ v H', Q v H' → Q' v H') : tEvA G XR W f σ H Q' := by
  obtain ⟨A, env, R, p⟩ := h
  exact ⟨A, env, R, Post.imp (Fr.refl _ _ _) (fun _ _ _ _ _ q v o => i _ _ (q v o)) p⟩
theorem tEvT.imp {f : TF} {σ : St} {H : Hp} {Q Q' : Bool → Hp → Prop} (h : tEvT G XR W f σ H Q) (i : ∀ v H', Q v H' → Q' v H') : tEvT G XR W f σ H Q' := by
  obtain ⟨A, env, R, p⟩ := h
  exact ⟨A, env, R, Post.imp (Fr.refl _ _ _) (fun _ _ _ _ _ q => i _ _ q) p⟩

/-- the end of an operation -/
theorem fin_rv {σ : St} {A A' : Hid} {H H0 H' : Hp} {env : Env} {Q : VK} {rv : RV} {v : V} (R : Rep G A σ H env) (k : ∀ p, H p = none → H0 p = none)
    (p : Post G XR W σ A H env (fun o e A' H' => ∀ v, OutOk G H0 A' σ H' e o v → Q v H') (some (.ok rv.out env))) (x : Ext A H A' H') (h : RvOk G H A' H' rv v) : Q v H' :=
  p A' H' (x.rep R) (x.fr _) v (h.out R k)

/-! ### names, constants -/
def cName (i : Nat) : EF := fun env => match env[i]? with
  | some (some _) => some (.ok (.slot i) env)
  | _ => none
theorem ev_name {e : Expr} {i : Nat} (h : PE X e (tVar i)) : PE X e (tEv G XR W (cName i)) := PE_imp h fun σ H Q ⟨A, env, R, p⟩ => by
  unfold cName at p
  split at p
  · rename_i c e1
    obtain ⟨v, e2, _⟩ := R.cell i c e1
    exact ⟨v, e2, p A H R (Fr.refl _ _ _) v e2⟩
  · exact p.elim
def cC (d : D) : EF := fun env => some (.ok (.dat d) env)
theorem ev_c {e : Expr} {d : D} {v : V} (h : PE X e (tC v)) (r : ∀ A H, RepD G A H d v) : PE X e (tEv G XR W (cC d)) := PE_imp h fun σ H Q ⟨A, env, R, p⟩ => p A H R (Fr.refl _ _ _) v (r A H)
theorem ev_int {i j pos} : PE X (.Constant (.int i) j pos) (tEv G XR W (cC (.int i))) := ev_c pe_int fun _ _ => by unfold RepD; rfl
theorem ev_bl {i j pos} : PE X (.Constant (.bool i) j pos) (tEv G XR W (cC (.bl i))) := ev_c pe_bl fun _ _ => by unfold RepD; rfl
theorem ev_str {i j pos} : PE X (.Constant (.str i) j pos) (tEv G XR W (cC (.str i))) := ev_c pe_str fun _ _ => by unfold RepD; rfl
theorem ev_non {j pos} : PE X (.Constant .none j pos) (tEv G XR W (cC .non)) := ev_c pe_non fun _ _ => by unfold RepD; rfl

/-! ### operations of one, two places -/
def fin1 (F : D → Option RV) (e : Env) (o : Out) : Option (Rs Out) := match peek e o with
  | some d => match F d with
    | some rv => some (.ok rv.out e)
    | none => none
  | none => none
def fin2 (F : D → D → Option RV) (e : Env) (o o' : Out) : Option (Rs Out) := match peek e o, peek e o' with
  | some d, some d' => match F d d' with
    | some rv => some (.ok rv.out e)
    | none => none
  | _, _ => none
def cUn (F : D → Option RV) (f : EF) : EF := fun env => bd (f env) fun o e => fin1 F e o
def cBin (F : D → D → Option RV) (f g : EF) : EF := fun env => bd (f env) fun o e => bd (g e) fun o' e' => fin2 F e' o o'

def Op1 (G : Tb) (r : V → Hp → VK → Prop) (F : D → Option RV) : Prop := ∀ (d : D) (rv : RV) (A : Hid) (H : Hp) (x : V) (Q : VK), F d = some rv → TupOk A H → RepT G A H d x → (∀ v A' H', Ext A H A' H' → RvOk G H A' H' rv v → Q v H') → r x H Q
def Op2 (G : Tb) (r : R2) (F : D → D → Option RV) : Prop := ∀ (d d' : D) (rv : RV) (A : Hid) (H : Hp) (x y : V) (Q : VK), F d d' = some rv → TupOk A H → RepT G A H d x → RepT G A H d' y →
  (∀ v A' H', Ext A H A' H' → RvOk G H A' H' rv v → Q v H') → r x y H Q

theorem use1 {r : V → Hp → VK → Prop} {F : D → Option RV} (hF : Op1 G r F) {f : EF} {σ : St} {H : Hp} {Q : VK} (h : tEv G XR W (cUn F f) σ H Q) : tEv G XR W f σ H fun x H1 => r x H1 Q := by
  obtain ⟨A, env, R, p⟩ := h
  refine (ev_seq R p).imp fun x H1 ⟨A1, e1, o1, R1, ok, F1, p1⟩ => ?_
  unfold fin1 at p1
  split at p1
  · rename_i d hd
    split at p1
    · rename_i rv hr
      exact hF d rv A1 H1 x Q hr R1.tup (peek_ok R1 ok hd) fun v A' H' ex ro => fin_rv R1 (fun p q => F1.none q) p1 ex ro
    · exact p1.elim
  · exact p1.elim
theorem use2 {r : R2} {F : D → D → Option RV} (hF : Op2 G r F) {f g : EF} {σ : St} {H : Hp} {Q : VK} (h : tEv G XR W (cBin F f g) σ H Q) : tEv G XR W f σ H fun x H1 => tEv G XR W g σ H1 fun y H2 => r x y H2 Q := by
  obtain ⟨A, env, R, p⟩ := h
  refine (ev_seq R p).imp fun x H1 ⟨A1, e1, o1, R1, ok, F1, p1⟩ => ?_
  refine (ev_seq R1 p1).imp fun y H2 ⟨A2, e2, o2, R2, ok2, F2, p2⟩ => ?_
  have okx := ok.mono R1 F2
  unfold fin2 at p2
  split at p2
  · rename_i d d' hd hd'
    split at p2
    · rename_i rv hr
      exact hF d d' rv A2 H2 x y Q hr R2.tup (peek_ok R2 okx hd) (peek_ok R2 ok2 hd') fun v A' H' ex ro => fin_rv R2 (fun p q => F1.none (F2.none q)) p2 ex ro
    · exact p2.elim
  · exact p2.elim

theorem ev_op {a b : Expr} {pos : Pos} {op : Operator} {r : R2} {F : D → D → Option RV} {f g : EF} (ho : OpR X (binaryOp op) r) (hF : Op2 G r F) (ha : PE X a (tEv G XR W f)) (hb : PE X b (tEv G XR W g)) : PE X (.BinOp a op b pos) (tEv G XR W (cBin F f g)) :=
  PE_imp (pe_op ho ha hb) fun _ _ _ h => use2 hF h
theorem ev_un {a : Expr} {pos : Pos} {op : UnaryOp} {r : V → Hp → VK → Prop} {F : D → Option RV} {f : EF} (ho : UnR X (unaryOp op) r) (hF : Op1 G r F) (ha : PE X a (tEv G XR W f)) : PE X (.UnaryOp op a pos) (tEv G XR W (cUn F f)) :=
  PE_imp (pe_un ho ha) fun _ _ _ h => use1 hF h
theorem ev_cmp {a b : Expr} {pos : Pos} {op : CmpOp} {r : R2} {F : D → D → Option RV} {f g : EF} (ho : OpR X (compareOp op) r) (hF : Op2 G r F) (ha : PE X a (tEv G XR W f)) (hb : PE X b (tEv G XR W g)) (hm : behindInMarks op b = false) :
    PE X (.Compare a [op] [b] pos) (tEv G XR W (cBin F f g)) := PE_imp (pe_cmpR ho ha hb hm) fun _ _ _ h => use2 hF h
theorem ev_ix {a b : Expr} {pos : Pos} {r : R2} {F : D → D → Option RV} {f g : EF} (ho : IxR X r) (hF : Op2 G r F) (ha : PE X a (tEv G XR W f)) (hb : PE X b (tEv G XR W g)) (hs : PlainIx b) : PE X (.Subscript a b pos) (tEv G XR W (cBin F f g)) :=
  PE_imp (pe_ix ho ha hb hs) fun _ _ _ h => use2 hF h

/-! ### built-in calls -/
def Cb1 (G : Tb) (r : List V → Hp → VK → Prop) (F : D → Option RV) : Prop := Op1 G (fun x H Q => r [x] H Q) F
def Cb2 (G : Tb) (r : List V → Hp → VK → Prop) (F : D → D → Option RV) : Prop := Op2 G (fun x y H Q => r [x, y] H Q) F
section
variable {x : Str} {p pos : Pos} {a b : Expr} {id T : String} {r : List V → Hp → VK → Prop} {f g : EF}
theorem ev_callB1 {F : D → Option RV} (hc : CallR X (.builtin id) r) (hF : Cb1 G r F) (hg : Gl X x) (hm : X.mg x = none) (hv : bootBuiltins x = some (.builtin id)) (ha : PE X a (tEv G XR W f)) (hn : x ≠ "__name__" := by decide)
    (hdb : (x == ("__debug__" : Str)) = false := by decide) (hs : starEach [a] X.env = [(false, eval a X.env)] := by rfl) : PE X (.Call (.Name x p) [a] [] pos) (tEv G XR W (cUn F f)) :=
  PE_imp (pe_callB hc hg hm hv (pa_cons ha pa_nil hs) hn hdb hs rfl) fun _ _ _ h => use1 hF h
theorem ev_callB2 {F : D → D → Option RV} (hc : CallR X (.builtin id) r) (hF : Cb2 G r F) (hg : Gl X x) (hm : X.mg x = none) (hv : bootBuiltins x = some (.builtin id)) (ha : PE X a (tEv G XR W f)) (hb : PE X b (tEv G XR W g)) (hn : x ≠ "__name__" := by decide)
    (hdb : (x == ("__debug__" : Str)) = false := by decide) (hs : starEach [a, b] X.env = (false, eval a X.env) :: starEach [b] X.env := by rfl) (hs2 : starEach [b] X.env = [(false, eval b X.env)] := by rfl) (hpl : (backTo pos (starEach [b] X.env)).any (·.1) = false := by rfl) :
    PE X (.Call (.Name x p) [a, b] [] pos) (tEv G XR W (cBin F f g)) :=
  PE_imp (pe_callB hc hg hm hv (pa_cons ha (pa_cons hb pa_nil hs2) hs) hn hdb hs hpl) fun _ _ _ h => use2 hF h
theorem ev_callT1 {F : D → Option RV} (hc : CallR X (.type T) r) (hF : Cb1 G r F) (hg : Gl X x) (hm : X.mg x = none) (hv : bootBuiltins x = some (.type T)) (ha : PE X a (tEv G XR W f)) (hn : x ≠ "__name__" := by decide)
    (hdb : (x == ("__debug__" : Str)) = false := by decide) (hs : starEach [a] X.env = [(false, eval a X.env)] := by rfl) : PE X (.Call (.Name x p) [a] [] pos) (tEv G XR W (cUn F f)) :=
  PE_imp (pe_callTy hc hg hm hv (pa_cons ha pa_nil hs) hn hdb hs rfl) fun _ _ _ h => use1 hF h
end

/-! ### data used: an own thing is own no more -/
def use (env : Env) : Out → Option (Rs D)
  | .dat d => some (.ok d env)
  | .fresh d => some (.ok d env)
  | .slot i => match env[i]? with
    | some (some (.dat d)) => some (.ok d env)
    | some (some (.own d)) => some (.ok d (env.set i (some (.dat d))))
    | _ => none
def cUse (f : EF) : UF := fun env => bd (f env) fun o e => use e o

theorem sub_stab {A A' : Hid} {H : Hp} (h : ∀ p, A' p → A p) : Stab A H A' H := fun _ _ e n => ⟨e, fun z => n (h _ z)⟩
theorem TupOk.sub {A A' : Hid} {H : Hp} (t : TupOk A H) (h : ∀ p, A' p → A p) : TupOk A' H := fun p q => t p (h p q)

/-- a fresh thing let go -/
theorem Rep.letGo {σ : St} {A : Hid} {H : Hp} {env : Env} (R : Rep G A σ H env) {p : Addr} (n : ¬ Own σ env p) : Rep G (fun a => A a ∧ a ≠ p) σ H env := by
  have hs : ∀ a, (A a ∧ a ≠ p) → A a := fun _ h => h.1
  refine ⟨R.len, R.tup.sub hs, fun i c e => ?_, R.inj⟩
  obtain ⟨v, e1, k⟩ := R.cell i c e
  refine ⟨v, e1, ?_⟩
  cases c with
  | dat d => exact RepD.mono (sub_stab hs) R.tup d v k
  | exc y => exact CellOk.exc_mono (sub_stab hs) R.tup k
  | own d =>
    obtain ⟨q, e2, a, t⟩ := k
    subst e2
    exact ⟨q, rfl, ⟨a, fun z => n ⟨i, d, e, z ▸ e1⟩⟩, t.mono (sub_stab hs) R.tup fun _ z => z⟩
theorem get_set_ne {env : Env} {i j : Nat} {c : Option Cell} (h : i ≠ j) : (env.set i c)[j]? = env[j]? := by
  rw [List.getElem?_set_ne h]
theorem get_set_self {env : Env} {i : Nat} {c c' : Option Cell} (h : env[i]? = some c') : (env.set i c)[i]? = some c := by
  have hl : i < env.length := (List.getElem?_eq_some_iff.mp h).1
  rw [List.getElem?_set_self hl]
theorem Rep.freeze {σ : St} {A : Hid} {H : Hp} {env : Env} (R : Rep G A σ H env) {i : Nat} {d : D} {p : Addr} (e : env[i]? = some (some (.own d))) (es : σ[i]? = some (some (.ref p))) :
    Rep G (fun a => A a ∧ a ≠ p) σ H (env.set i (some (.dat d))) ∧ (∀ q, Own σ (env.set i (some (.dat d))) q → Own σ env q ∧ q ≠ p) ∧ RepD G (fun a => A a ∧ a ≠ p) H d (.ref p) := by
  have hs : ∀ a, (A a ∧ a ≠ p) → A a := fun _ h => h.1
  obtain ⟨v, e1, q, e2, a, t⟩ := R.cell i _ e
  rw [es] at e1
  cases e1
  cases e2
  have rd : RepD G (fun a => A a ∧ a ≠ p) H d (.ref p) := (t.mono (sub_stab hs) R.tup fun _ z => z).dat fun z => z.2 rfl
  have ow : ∀ q, Own σ (env.set i (some (.dat d))) q → Own σ env q ∧ q ≠ p := fun q ⟨j, d', k1, k2⟩ => by
    by_cases hj : i = j
    · subst hj
      rw [get_set_self e] at k1
      cases k1
    · rw [get_set_ne hj] at k1
      exact ⟨⟨j, d', k1, k2⟩, fun z => hj (R.inj i j d d' (.ref p) e k1 es (z ▸ k2))⟩
  refine ⟨⟨by rw [List.length_set]; exact R.len, R.tup.sub hs, fun j c k => ?_, fun j1 j2 d1 d2 w k1 k2 k3 k4 => ?_⟩, ow, rd⟩
  · by_cases hj : i = j
    · subst hj
      rw [get_set_self e] at k
      cases k
      exact ⟨_, es, rd⟩
    · rw [get_set_ne hj] at k
      obtain ⟨u, e3, c3⟩ := R.cell j c k
      refine ⟨u, e3, ?_⟩
      cases c with
      | dat d' => exact RepD.mono (sub_stab hs) R.tup d' u c3
      | exc y => exact CellOk.exc_mono (sub_stab hs) R.tup c3
      | own d' =>
        obtain ⟨q, e4, a4, t4⟩ := c3
        subst e4
        exact ⟨q, rfl, ⟨a4, fun z => hj (R.inj i j d d' (.ref p) e k es (z ▸ e3))⟩, t4.mono (sub_stab hs) R.tup fun _ z => z⟩
  · have g : ∀ (j : Nat) (d' : D), (env.set i (some (.dat d)))[j]? = some (some (Cell.own d')) → env[j]? = some (some (.own d')) := fun j d' k => by
      by_cases hj : i = j
      · subst hj
        rw [get_set_self e] at k
        cases k
      · rw [get_set_ne hj] at k
        exact k
    exact R.inj j1 j2 d1 d2 w (g _ _ k1) (g _ _ k2) k3 k4

theorem use_ok {σ : St} {A A0 : Hid} {H H0 : Hp} {env env0 env' : Env} {o : Out} {v : V} {d : D} (R : Rep G A σ H env) (F0 : Fr (Own σ env0) A0 H0 (Own σ env) A H) (h : OutOk G H0 A σ H env o v) (e : use env o = some (.ok d env')) :
    ∃ A', Rep G A' σ H env' ∧ Fr (Own σ env0) A0 H0 (Own σ env') A' H ∧ RepD G A' H d v ∧ Stab A H A' H := by
  cases o with
  | dat d' =>
    cases e
    exact ⟨A, R, F0, h, Stab.refl _ _⟩
  | fresh d' =>
    cases e
    obtain ⟨p, e1, e2, a, n, t⟩ := h
    subst e1
    have hs : ∀ a, (A a ∧ a ≠ p) → A a := fun _ h => h.1
    refine ⟨fun a => A a ∧ a ≠ p, R.letGo n, ⟨fun b x hb nb => ⟨(F0.keep b x hb nb).1, ?_⟩, F0.own, F0.dom⟩, (t.mono (sub_stab hs) R.tup fun _ z => z).dat fun z => z.2 rfl, sub_stab hs⟩
    refine Iff.trans ⟨fun z => z.1, fun z => ⟨z, fun w => ?_⟩⟩ (F0.keep b x hb nb).2
    rw [w, e2] at hb
    cases hb
  | slot i =>
    have h : σ[i]? = some (some v) := h
    unfold use at e
    simp only at e
    split at e
    · rename_i d' e1
      cases e
      obtain ⟨u, e2, c⟩ := R.cell i _ e1
      rw [h] at e2
      cases e2
      exact ⟨A, R, F0, c, Stab.refl _ _⟩
    · rename_i d' e1
      cases e
      obtain ⟨u, e2, p, e3, a, t⟩ := R.cell i _ e1
      rw [h] at e2
      cases e2
      subst e3
      obtain ⟨r1, r2, r3⟩ := R.freeze e1 h
      have hs : ∀ a, (A a ∧ a ≠ p) → A a := fun _ h => h.1
      refine ⟨_, r1, ⟨fun b x hb nb => ⟨(F0.keep b x hb nb).1, ?_⟩, fun q hq => F0.own q (r2 q hq).1, F0.dom⟩, r3, sub_stab hs⟩
      refine Iff.trans ⟨fun z => z.1, fun z => ⟨z, fun w => ?_⟩⟩ (F0.keep b x hb nb).2
      rcases F0.own b ⟨i, d, e1, w ▸ h⟩ with q | q
      · exact nb q
      · rw [q] at hb
        cases hb
    · cases e

theorem ev_use {e : Expr} {f : EF} (h : PE X e (tEv G XR W f)) : PE X e (tEvU G XR W (cUse f)) := PE_imp h fun σ H Q ⟨A, env, R, p⟩ => by
  refine ⟨A, env, R, ?_⟩
  unfold cUse at p
  cases hf : f env with
  | none =>
    rw [hf] at p
    exact p
  | some r =>
    rw [hf] at p
    cases r with
    | ok o e1 =>
      intro A1 H1 R1 F1 v ov
      rw [bd_ok] at p
      cases hu : use e1 o with
      | none =>
        rw [hu] at p
        exact p.elim
      | some r2 =>
        rw [hu] at p
        cases r2 with
        | ok d e2 =>
          obtain ⟨A2, R2, F2, r, _⟩ := use_ok R1 F1 ov hu
          exact p A2 H1 R2 F2 v r
        | ex x e2 =>
          exfalso
          cases o with
          | dat d => cases hu
          | fresh d => cases hu
          | slot i =>
            unfold use at hu
            simp only at hu
            split at hu <;> cases hu
    | ex x e1 => exact p

/-! ### arguments, displays -/
def aNil : AF := fun env => some (.ok [] env)
def aCons (f : EF) (r : AF) : AF := fun env => bd (cUse f env) fun d e => bd (r e) fun ds e2 => some (.ok (d :: ds) e2)
theorem ea_nil : PA X [] (tEvA G XR W aNil) := PA_imp pa_nil fun σ H Q ⟨A, env, R, p⟩ => p A H R (Fr.refl _ _ _) [] .nil
theorem ea_cons {e : Expr} {es : List Expr} {f : EF} {r : AF} (h : PE X e (tEv G XR W f)) (hr : PA X es (tEvA G XR W r)) (hs : starEach (e :: es) X.env = (false, eval e X.env) :: starEach es X.env := by rfl) : PA X (e :: es) (tEvA G XR W (aCons f r)) :=
  PA_imp (pa_cons (ev_use h) hr hs) fun σ H Q ⟨A, env, R, p⟩ => by
    refine (evU_seq R p).imp fun x H1 ⟨A1, e1, d1, R1, k1, F1, p1⟩ => ?_
    refine (evA_seq R1 p1).imp fun xs H2 ⟨A2, e2, ds, R2, k2, F2, p2⟩ => ?_
    exact p2 A2 H2 R2 (Fr.refl _ _ _) (x :: xs) (.cons (RepD.mono (F2.stab fun p q => R1.own_hid q) R1.tup _ _ k1) k2)

/-- a new thing at a free place -/
theorem Ext.newTup {A : Hid} {H : Hp} (t : TupOk A H) {p : Addr} (n : H p = none) (o : HO) : Ext A H A (upd H p o) := by
  refine ⟨fun a x h => ⟨?_, Iff.rfl⟩, fun q hq => ?_⟩
  · rw [upd_ne (ne_of_none h n)]
    exact h
  · obtain ⟨x, e, r⟩ := t q hq
    refine ⟨x, ?_, r⟩
    rw [upd_ne (ne_of_none e n)]
    exact e
theorem Ext.newOwn {A : Hid} {H : Hp} (t : TupOk A H) {p : Addr} (n : H p = none) {o : HO} (h1 : ∀ xs, o ≠ .tup xs) (h2 : ∀ o' xs, o ≠ .frz o' (.tup xs)) : Ext A H (fun a => A a ∨ a = p) (upd H p o) := by
  refine ⟨fun a x h => ⟨?_, ⟨fun z => ?_, .inl⟩⟩, fun q hq => ?_⟩
  · rw [upd_ne (ne_of_none h n)]
    exact h
  · rcases z with z | z
    · exact z
    · rw [z, n] at h
      cases h
  · by_cases e : q = p
    · subst e
      exact ⟨o, upd_same, h1, h2⟩
    · rcases hq with hq | hq
      · obtain ⟨x, e', r⟩ := t q hq
        refine ⟨x, ?_, r⟩
        rw [upd_ne e]
        exact e'
      · exact absurd hq e
theorem rv_tup {A : Hid} {H : Hp} (t : TupOk A H) {ds : List D} {vs : List V} (r : RepDs G A H ds vs) {p : Addr} (n : H p = none) : RvOk G H A (upd H p (.tup vs)) (.dat (.tup ds)) (.ref p) := by
  show RepD G A (upd H p (.tup vs)) (.tup ds) (.ref p)
  unfold RepD
  exact ⟨p, vs, rfl, .inl (.inl upd_same), r.mono (Ext.newTup t n _).stab t⟩
theorem Ext.newLst {A : Hid} {H : Hp} (t : TupOk A H) {p : Addr} (n : H p = none) (xs : List V) : Ext A H (fun a => A a ∨ a = p) (upd H p (.lst xs)) := Ext.newOwn t n (fun _ z => by cases z) (fun _ _ z => by cases z)
theorem rv_lst {A : Hid} {H : Hp} (t : TupOk A H) {ds : List D} {vs : List V} (r : RepDs G A H ds vs) {p : Addr} (n : H p = none) : RvOk G H (fun a => A a ∨ a = p) (upd H p (.lst vs)) (.fresh (.lst ds)) (.ref p) :=
  ⟨p, rfl, n, .inr rfl, vs, upd_same, r.mono (Ext.newLst t n _).stab t⟩

def szOk (n : Nat) : Bool := decide (n ≤ 1000000)
theorem szOk.le {n : Nat} (h : szOk n = true) : n ≤ sizeLine := Nat.le_trans (of_decide_eq_true h) (by decide)
def cTup (a : AF) : EF := fun env => bd (a env) fun ds e => if szOk ds.length then some (.ok (.dat (.tup ds)) e) else none
def cLst (a : AF) : EF := fun env => bd (a env) fun ds e => if szOk ds.length then some (.ok (.fresh (.lst ds)) e) else none
theorem ev_tup {es : List Expr} {x1 : Nat} {pos : Pos} {a : AF} (h : PA X es (tEvA G XR W a)) : PE X (.Tuple es x1 pos) (tEv G XR W (cTup a)) := PE_imp (pe_tup h) fun σ H Q ⟨A, env, R, p⟩ => by
  refine (evA_seq R p).imp fun xs H1 ⟨A1, e1, ds, R1, k1, F1, p1⟩ => ?_
  split at p1
  · rename_i hz
    refine ⟨by rw [← k1.length]; exact szOk.le hz, fun q hq => ?_⟩
    exact fin_rv (rv := .dat (.tup ds)) R1 (fun p q => F1.none q) p1 (Ext.newTup R1.tup hq _) (rv_tup R1.tup k1 hq)
  · exact p1.elim
theorem ev_lst {es : List Expr} {pos : Pos} {a : AF} (h : PA X es (tEvA G XR W a)) : PE X (.List es pos) (tEv G XR W (cLst a)) := PE_imp (pe_lst h) fun σ H Q ⟨A, env, R, p⟩ => by
  refine (evA_seq R p).imp fun xs H1 ⟨A1, e1, ds, R1, k1, F1, p1⟩ => ?_
  split at p1
  · rename_i hz
    refine ⟨by rw [← k1.length]; exact szOk.le hz, fun q hq => ?_⟩
    exact fin_rv (rv := .fresh (.lst ds)) R1 (fun p q => F1.none q) p1 (Ext.newLst R1.tup hq _) (rv_lst R1.tup k1 hq)
  · exact p1.elim

/-! ### tests -/
def cTest (f : EF) : TF := fun env => bd (f env) fun o e => match peek e o with
  | some (.bl b) => some (.ok b e)
  | _ => none
theorem test_of {f : EF} {σ : St} {H : Hp} {Q : Bool → Hp → Prop} (h : tEvT G XR W (cTest f) σ H Q) : tEv G XR W f σ H fun x H' => ∃ k, x = .bl k ∧ Q k H' := by
  obtain ⟨A, env, R, p⟩ := h
  refine (ev_seq R p).imp fun x H1 ⟨A1, e1, o1, R1, ok, F1, p1⟩ => ?_
  split at p1
  · rename_i b hb
    rcases peek_ok R1 ok hb with q | ⟨_, _, _, q⟩
    · unfold RepD at q
      exact ⟨b, q, p1 A1 H1 R1 (Fr.refl _ _ _)⟩
    · exact q.elim
  · exact p1.elim
theorem et_val {e : Expr} {f : EF} (h : PE X e (tEv G XR W f)) (he : ∀ whole, isTrue e X.env whole = (do let v ← whole; standAt e.pos; holding [v] (truthy v)) := by intro _; rfl) : PT X e (tEvT G XR W (cTest f)) :=
  PT_imp (pt_val h he) fun _ _ _ q => test_of q
theorem et_cmp {a b : Expr} {pos : Pos} {op : CmpOp} {r : R2} {F : D → D → Option RV} {f g : EF} (ho : OpR X (compareOp op) r) (hF : Op2 G r F) (ha : PE X a (tEv G XR W f)) (hb : PE X b (tEv G XR W g)) (hm : behindInMarks op b = false) :
    PT X (.Compare a [op] [b] pos) (tEvT G XR W (cTest (cBin F f g))) := PT_imp (pt_cmpR ho ha hb hm) fun σ H Q q => by
  have q1 := test_of q
  exact use2 hF q1
def tAndF (t u : TF) : TF := fun env => bd (t env) fun b e => if b = true then u e else some (.ok false e)
def tOrF (t u : TF) : TF := fun env => bd (t env) fun b e => if b = true then some (.ok true e) else u e
def tNotF (t : TF) : TF := fun env => bd (t env) fun b e => some (.ok (!b) e)
theorem evT_of {f : TF} {σ : St} {A : Hid} {H : Hp} {env : Env} {Q : Bool → Hp → Prop} (R : Rep G A σ H env) (p : Post G XR W σ A H env (fun b _ _ H' => Q b H') (f env)) : tEvT G XR W f σ H Q := ⟨A, env, R, p⟩
theorem ew_and1 {a : Expr} {pos : Pos} {t : TF} (h : PT X a (tEvT G XR W t)) : PW X (.BoolOp .And [a] pos) (tEvT G XR W t) := pw_and1 h
theorem ew_or1 {a : Expr} {pos : Pos} {t : TF} (h : PT X a (tEvT G XR W t)) : PW X (.BoolOp .Or [a] pos) (tEvT G XR W t) := pw_or1 h
theorem ew_and {a b : Expr} {rest : List Expr} {pos : Pos} {t u : TF} (ha : PT X a (tEvT G XR W t)) (hb : PW X (.BoolOp .And (b :: rest) pos) (tEvT G XR W u)) : PW X (.BoolOp .And (a :: b :: rest) pos) (tEvT G XR W (tAndF t u)) :=
  PW_imp (pw_and ha hb) fun σ H Q ⟨A, env, R, p⟩ => by
    refine (evT_seq R p).imp fun b H1 ⟨A1, e1, R1, F1, p1⟩ => ?_
    cases b with
    | true => exact ⟨A1, e1, R1, p1⟩
    | false => exact p1 A1 H1 R1 (Fr.refl _ _ _)
theorem ew_or {a b : Expr} {rest : List Expr} {pos : Pos} {t u : TF} (ha : PT X a (tEvT G XR W t)) (hb : PW X (.BoolOp .Or (b :: rest) pos) (tEvT G XR W u)) : PW X (.BoolOp .Or (a :: b :: rest) pos) (tEvT G XR W (tOrF t u)) :=
  PW_imp (pw_or ha hb) fun σ H Q ⟨A, env, R, p⟩ => by
    refine (evT_seq R p).imp fun b H1 ⟨A1, e1, R1, F1, p1⟩ => ?_
    cases b with
    | false => exact ⟨A1, e1, R1, p1⟩
    | true => exact p1 A1 H1 R1 (Fr.refl _ _ _)
theorem et_not {a : Expr} {pos : Pos} {t : TF} (h : PT X a (tEvT G XR W t)) : PT X (.UnaryOp .Not a pos) (tEvT G XR W (tNotF t)) := PT_imp (pt_not h) fun σ H Q ⟨A, env, R, p⟩ => by
  refine (evT_seq R p).imp fun b H1 ⟨A1, e1, R1, F1, p1⟩ => ?_
  exact p1 A1 H1 R1 (Fr.refl _ _ _)
/-- .. as values -/
def cAndV (f g : EF) : EF := fun env => bd (f env) fun o e => match peek e o with
  | some (.bl true) => g e
  | some (.bl false) => some (.ok (.dat (.bl false)) e)
  | _ => none
def cOrV (f g : EF) : EF := fun env => bd (f env) fun o e => match peek e o with
  | some (.bl true) => some (.ok (.dat (.bl true)) e)
  | some (.bl false) => g e
  | _ => none
def cNotV (f : EF) : EF := fun env => bd (f env) fun o e => match peek e o with
  | some (.bl b) => some (.ok (.dat (.bl (!b))) e)
  | _ => none
theorem ev_rebase {f : EF} {σ : St} {A A1 : Hid} {H H1 : Hp} {env e1 : Env} {Q : VK} (R1 : Rep G A1 σ H1 e1) (F1 : Fr (Own σ env) A H (Own σ e1) A1 H1) (p1 : Post G XR W σ A1 H1 e1 (fun o e A' H' => ∀ v, OutOk G H A' σ H' e o v → Q v H') (f e1)) :
    tEv G XR W f σ H1 Q := ⟨A1, e1, R1, Post.imp (Fr.refl _ _ _) (fun _ _ _ _ _ q v o => q v (o.base fun p h => F1.none h)) p1⟩
theorem bl_of {A : Hid} {H : Hp} {b : Bool} {x : V} (h : RepT G A H (.bl b) x) : x = .bl b := by
  rcases h with q | ⟨_, _, _, q⟩
  · unfold RepD at q
    exact q
  · exact q.elim
theorem ev_one {op} {a : Expr} {pos : Pos} {f : EF} (h : PE X a (tEv G XR W f)) : PE X (.BoolOp op [a] pos) (tEv G XR W f) := pe_one h
theorem ev_and {a b : Expr} {rest : List Expr} {pos : Pos} {f g : EF} (ha : PE X a (tEv G XR W f)) (hb : PE X (.BoolOp .And (b :: rest) pos) (tEv G XR W g)) : PE X (.BoolOp .And (a :: b :: rest) pos) (tEv G XR W (cAndV f g)) :=
  PE_imp (pe_and ha hb) fun σ H Q ⟨A, env, R, p⟩ => by
    refine (ev_seq R p).imp fun x H1 ⟨A1, e1, o1, R1, ok, F1, p1⟩ => ?_
    split at p1
    · rename_i hb
      exact ⟨true, bl_of (peek_ok R1 ok hb), ev_rebase R1 F1 p1⟩
    · rename_i hb
      exact ⟨false, bl_of (peek_ok R1 ok hb), p1 A1 H1 R1 (Fr.refl _ _ _) _ (by show RepD G A1 H1 _ _; unfold RepD; rfl)⟩
    · exact p1.elim
theorem ev_or {a b : Expr} {rest : List Expr} {pos : Pos} {f g : EF} (ha : PE X a (tEv G XR W f)) (hb : PE X (.BoolOp .Or (b :: rest) pos) (tEv G XR W g)) : PE X (.BoolOp .Or (a :: b :: rest) pos) (tEv G XR W (cOrV f g)) :=
  PE_imp (pe_or ha hb) fun σ H Q ⟨A, env, R, p⟩ => by
    refine (ev_seq R p).imp fun x H1 ⟨A1, e1, o1, R1, ok, F1, p1⟩ => ?_
    split at p1
    · rename_i hb
      exact ⟨true, bl_of (peek_ok R1 ok hb), p1 A1 H1 R1 (Fr.refl _ _ _) _ (by show RepD G A1 H1 _ _; unfold RepD; rfl)⟩
    · rename_i hb
      exact ⟨false, bl_of (peek_ok R1 ok hb), ev_rebase R1 F1 p1⟩
    · exact p1.elim
theorem ev_not {a : Expr} {pos : Pos} {f : EF} (ha : PE X a (tEv G XR W f)) : PE X (.UnaryOp .Not a pos) (tEv G XR W (cNotV f)) := PE_imp (pe_not ha) fun σ H Q ⟨A, env, R, p⟩ => by
  refine (ev_seq R p).imp fun x H1 ⟨A1, e1, o1, R1, ok, F1, p1⟩ => ?_
  split at p1
  · rename_i b hb
    exact ⟨b, bl_of (peek_ok R1 ok hb), p1 A1 H1 R1 (Fr.refl _ _ _) _ (by show RepD G A1 H1 _ _; unfold RepD; rfl)⟩
  · exact p1.elim
def cIfE (t : TF) (f g : EF) : EF := fun env => bd (t env) fun b e => if b = true then f e else g e
theorem ev_if {c a b : Expr} {pos : Pos} {t : TF} {f g : EF} (hc : PT X c (tEvT G XR W t)) (ha : PE X a (tEv G XR W f)) (hb : PE X b (tEv G XR W g)) : PE X (.IfExp c a b pos) (tEv G XR W (cIfE t f g)) := PE_imp (pe_ifExp hc ha hb) fun σ H Q ⟨A, env, R, p⟩ => by
  refine (evT_seq R p).imp fun b H1 ⟨A1, e1, R1, F1, p1⟩ => ?_
  cases b with
  | true => exact ev_rebase R1 F1 p1
  | false => exact ev_rebase R1 F1 p1
end
end Tk
/-! Tk3: statements, loops, comprehensions. -/
namespace Tk
open PySem L2

inductive Fl where
  | next
  | brk
  | cont
  | ret (o : Out)
abbrev SF := Env → Option (Rs Fl)
def Keep (fx : List Nat) (σ σ' : St) : Prop := ∀ i ∈ fx, σ'[i]? = σ[i]?
theorem Keep.refl (fx : List Nat) (σ : St) : Keep fx σ σ := fun _ _ => rfl
theorem Keep.trans {fx : List Nat} {σ σ1 σ2 : St} (a : Keep fx σ σ1) (b : Keep fx σ1 σ2) : Keep fx σ σ2 := fun i h => (b i h).trans (a i h)

def PostS (G : Tb) (XR : XW) (W : WX) (fx : List Nat) (D : Ends) (σ : St) (A : Hid) (H : Hp) (env : Env) : Option (Rs Fl) → Prop
  | none => False
  | some (.ok .next e) => ∀ σ' A' H', Rep G A' σ' H' e → Keep fx σ σ' → Fr (Own σ env) A H (Own σ' e) A' H' → D.nx σ' H'
  | some (.ok .brk e) => ∀ σ' A' H', Rep G A' σ' H' e → Keep fx σ σ' → Fr (Own σ env) A H (Own σ' e) A' H' → D.bk σ' H'
  | some (.ok .cont e) => ∀ σ' A' H', Rep G A' σ' H' e → Keep fx σ σ' → Fr (Own σ env) A H (Own σ' e) A' H' → D.ct σ' H'
  | some (.ok (.ret o) e) => ∀ σ' A' H' v, Rep G A' σ' H' e → Keep fx σ σ' → Fr (Own σ env) A H (Own σ' e) A' H' → OutOk G H A' σ' H' e o v → D.rt v H'
  | some (.ex x e) => ∀ σ' A' H' c d, Rep G A' σ' H' e → Keep fx σ σ' → Fr (Own σ env) A H (Own σ' e) A' H' → XR G x c d A' H' → W c d σ' H'
/-- wishes of a statement that grow -/
structure Ends.Le (D D' : Ends) : Prop where
  nx : ∀ σ H, D.nx σ H → D'.nx σ H
  bk : ∀ σ H, D.bk σ H → D'.bk σ H
  ct : ∀ σ H, D.ct σ H → D'.ct σ H
  rt : ∀ v H, D.rt v H → D'.rt v H
theorem Ends.Le.refl (D : Ends) : Ends.Le D D := ⟨fun _ _ h => h, fun _ _ h => h, fun _ _ h => h, fun _ _ h => h⟩

section
variable {G : Tb} {XR : XW} {W : WX} {X : Cx} {fx : List Nat}

theorem PostS.imp {D D' : Ends} {σ σ1 : St} {A A1 : Hid} {H H1 : Hp} {env env1 : Env} (l : Ends.Le D D') (k : Keep fx σ σ1) (f : Fr (Own σ env) A H (Own σ1 env1) A1 H1) : ∀ {r : Option (Rs Fl)}, PostS G XR W fx D σ A H env r → PostS G XR W fx D' σ1 A1 H1 env1 r
  | none, q => q
  | some (.ok .next e), q => fun σ' A' H' R K F => l.nx _ _ (q σ' A' H' R (k.trans K) (f.trans F))
  | some (.ok .brk e), q => fun σ' A' H' R K F => l.bk _ _ (q σ' A' H' R (k.trans K) (f.trans F))
  | some (.ok .cont e), q => fun σ' A' H' R K F => l.ct _ _ (q σ' A' H' R (k.trans K) (f.trans F))
  | some (.ok (.ret o) e), q => fun σ' A' H' v R K F ok => l.rt _ _ (q σ' A' H' v R (k.trans K) (f.trans F) (ok.base fun p h => f.none h))
  | some (.ex x e), q => fun σ' A' H' c d R K F xr => q σ' A' H' c d R (k.trans K) (f.trans F) xr
theorem PostS.now {D : Ends} {σ : St} {A : Hid} {H : Hp} {env : Env} (R : Rep G A σ H env) (p : PostS G XR W fx D σ A H env (some (.ok .next env))) : D.nx σ H := p σ A H R (Keep.refl _ _) (Fr.refl _ _ _)

variable (G XR W fx) in
def tEx (g : SF) : TS := fun D σ H => ∃ A env, Rep G A σ H env ∧ PostS G XR W fx D σ A H env (g env)

/-- an expression first -/
theorem exE_seq {f : EF} {k : Out → Env → Option (Rs Fl)} {D : Ends} {σ : St} {A : Hid} {H : Hp} {env : Env} (R : Rep G A σ H env) (p : PostS G XR W fx D σ A H env (bd (f env) k)) :
    tEv G XR W f σ H (fun x H1 => ∃ A1 env1 o1, Rep G A1 σ H1 env1 ∧ OutOk G H A1 σ H1 env1 o1 x ∧ Fr (Own σ env) A H (Own σ env1) A1 H1 ∧ PostS G XR W fx D σ A1 H1 env1 (k o1 env1)) := by
  refine ⟨A, env, R, ?_⟩
  cases hf : f env with
  | none =>
    rw [hf] at p
    exact p
  | some r =>
    rw [hf] at p
    cases r with
    | ok o e1 => exact fun A1 H1 R1 F1 v ov => ⟨A1, e1, o, R1, ov, F1, PostS.imp (Ends.Le.refl _) (Keep.refl _ _) F1 p⟩
    | ex x e1 => exact fun A1 H1 c d R1 F1 xr => p σ A1 H1 c d R1 (Keep.refl _ _) F1 xr
theorem exU_seq {f : UF} {k : D → Env → Option (Rs Fl)} {D : Ends} {σ : St} {A : Hid} {H : Hp} {env : Env} (R : Rep G A σ H env) (p : PostS G XR W fx D σ A H env (bd (f env) k)) :
    tEvU G XR W f σ H (fun x H1 => ∃ A1 env1 d1, Rep G A1 σ H1 env1 ∧ RepD G A1 H1 d1 x ∧ Fr (Own σ env) A H (Own σ env1) A1 H1 ∧ PostS G XR W fx D σ A1 H1 env1 (k d1 env1)) := by
  refine ⟨A, env, R, ?_⟩
  cases hf : f env with
  | none =>
    rw [hf] at p
    exact p
  | some r =>
    rw [hf] at p
    cases r with
    | ok o e1 => exact fun A1 H1 R1 F1 v ov => ⟨A1, e1, o, R1, ov, F1, PostS.imp (Ends.Le.refl _) (Keep.refl _ _) F1 p⟩
    | ex x e1 => exact fun A1 H1 c d R1 F1 xr => p σ A1 H1 c d R1 (Keep.refl _ _) F1 xr
theorem exT_seq {f : TF} {k : Bool → Env → Option (Rs Fl)} {D : Ends} {σ : St} {A : Hid} {H : Hp} {env : Env} (R : Rep G A σ H env) (p : PostS G XR W fx D σ A H env (bd (f env) k)) :
    tEvT G XR W f σ H (fun b H1 => ∃ A1 env1, Rep G A1 σ H1 env1 ∧ Fr (Own σ env) A H (Own σ env1) A1 H1 ∧ PostS G XR W fx D σ A1 H1 env1 (k b env1)) := by
  refine ⟨A, env, R, ?_⟩
  cases hf : f env with
  | none =>
    rw [hf] at p
    exact p
  | some r =>
    rw [hf] at p
    cases r with
    | ok o e1 => exact fun A1 H1 R1 F1 => ⟨A1, e1, R1, F1, PostS.imp (Ends.Le.refl _) (Keep.refl _ _) F1 p⟩
    | ex x e1 => exact fun A1 H1 c d R1 F1 xr => p σ A1 H1 c d R1 (Keep.refl _ _) F1 xr

/-! ### blocks -/
def sNil : SF := fun env => some (.ok .next env)
def seqK (g2 : SF) (fl : Fl) (e : Env) : Option (Rs Fl) := match fl with
  | .next => g2 e
  | .brk => some (.ok .brk e)
  | .cont => some (.ok .cont e)
  | .ret o => some (.ok (.ret o) e)
def sSeq (g1 g2 : SF) : SF := fun env => bd (g1 env) (seqK g2)
theorem es_nil : PSs X [] (tEx G XR W fx sNil) := PSs_imp pss_nil fun D σ H ⟨A, env, R, p⟩ => p.now R
theorem ex_mono {g : SF} {D D' : Ends} {σ : St} {H : Hp} (l : Ends.Le D D') (h : tEx G XR W fx g D σ H) : tEx G XR W fx g D' σ H := by
  obtain ⟨A, env, R, p⟩ := h
  exact ⟨A, env, R, PostS.imp l (Keep.refl _ _) (Fr.refl _ _ _) p⟩
/-- from a longer run to its first part -/
theorem post_seq {g : SF} {k : Fl → Env → Option (Rs Fl)} {D D' : Ends} {σ : St} {A : Hid} {H : Hp} {env : Env} (hb : ∀ e, k .brk e = some (.ok .brk e) ∧ ∀ σ' H', D.bk σ' H' → D'.bk σ' H') (hc : ∀ e, k .cont e = some (.ok .cont e) ∧ ∀ σ' H', D.ct σ' H' → D'.ct σ' H')
    (hr : ∀ o e, k (.ret o) e = some (.ok (.ret o) e) ∧ ∀ v H', D.rt v H' → D'.rt v H')
    (hn : ∀ σ' A' H' e, Rep G A' σ' H' e → Keep fx σ σ' → Fr (Own σ env) A H (Own σ' e) A' H' → PostS G XR W fx D σ' A' H' e (k .next e) → D'.nx σ' H') (p : PostS G XR W fx D σ A H env (bd (g env) k)) : PostS G XR W fx D' σ A H env (g env) := by
  cases hg : g env with
  | none =>
    rw [hg] at p
    exact p
  | some r =>
    rw [hg] at p
    cases r with
    | ex x e => exact p
    | ok fl e =>
      rw [bd_ok] at p
      cases fl with
      | next => exact fun σ' A' H' R K F => hn σ' A' H' e R K F (PostS.imp (Ends.Le.refl _) K F p)
      | brk =>
        rw [(hb e).1] at p
        exact fun σ' A' H' R K F => (hb e).2 _ _ (p σ' A' H' R K F)
      | cont =>
        rw [(hc e).1] at p
        exact fun σ' A' H' R K F => (hc e).2 _ _ (p σ' A' H' R K F)
      | ret o =>
        rw [(hr o e).1] at p
        exact fun σ' A' H' v R K F ok => (hr o e).2 _ _ (p σ' A' H' v R K F ok)
theorem es_cons {st : Stmt} {rest : List Stmt} {g1 g2 : SF} (h1 : PS X st (tEx G XR W fx g1)) (h2 : PSs X rest (tEx G XR W fx g2)) : PSs X (st :: rest) (tEx G XR W fx (sSeq g1 g2)) := PSs_imp (pss_cons h1 h2) fun D σ H ⟨A, env, R, p⟩ => by
  refine ⟨A, env, R, post_seq (D := D) (k := seqK g2) (fun e => ⟨rfl, fun _ _ h => h⟩) (fun e => ⟨rfl, fun _ _ h => h⟩) (fun o e => ⟨rfl, fun _ _ h => h⟩) (fun σ' A' H' e R' K F q => ?_) p⟩
  exact ⟨A', e, R', q⟩
theorem es_one {st : Stmt} {g1 : SF} (h1 : PS X st (tEx G XR W fx g1)) : PSs X [st] (tEx G XR W fx g1) := pss_one h1

/-! ### small statements -/
def sExpr (f : EF) : SF := fun env => bd (f env) fun _ e => some (.ok .next e)
theorem es_expr {e : Expr} {pos : Pos} {f : EF} (h : PE X e (tEv G XR W f)) (hs : swapsWith e none pos.line X.env = pure false := by rfl) : PS X (.Expr e pos) (tEx G XR W fx (sExpr f)) := PS_imp (ps_expr h hs) fun D σ H ⟨A, env, R, p⟩ => by
  refine (exE_seq R p).imp fun x H1 ⟨A1, e1, o1, R1, ok, F1, p1⟩ => ?_
  exact p1.now R1
def sRet (f : EF) : SF := fun env => bd (f env) fun o e => some (.ok (.ret o) e)
theorem es_ret {e : Expr} {pos : Pos} {f : EF} (h : PE X e (tEv G XR W f)) : PS X (.Return (some e) pos) (tEx G XR W fx (sRet f)) := PS_imp (ps_ret h) fun D σ H ⟨A, env, R, p⟩ => by
  refine ⟨A, env, R, ?_⟩
  unfold sRet at p
  cases hf : f env with
  | none =>
    rw [hf] at p
    exact p
  | some r =>
    rw [hf] at p
    cases r with
    | ok o e1 => exact fun A1 H1 R1 F1 v ov => p σ A1 H1 v R1 (Keep.refl _ _) F1 ov
    | ex x e1 => exact fun A1 H1 c d R1 F1 xr => p σ A1 H1 c d R1 (Keep.refl _ _) F1 xr
def sRetN : SF := fun env => some (.ok (.ret (.dat .non)) env)
theorem es_retN {pos : Pos} : PS X (.Return none pos) (tEx G XR W fx sRetN) := PS_imp ps_retN fun D σ H ⟨A, env, R, p⟩ => p σ A H .non R (Keep.refl _ _) (Fr.refl _ _ _) (by show RepD G A H _ _; unfold RepD; rfl)
theorem es_pass {pos : Pos} : PS X (.Pass pos) (tEx G XR W fx sNil) := PS_imp ps_pass fun D σ H ⟨A, env, R, p⟩ => p.now R
def sBrk : SF := fun env => some (.ok .brk env)
def sCont : SF := fun env => some (.ok .cont env)
theorem es_break {pos : Pos} : PS X (.Break pos) (tEx G XR W fx sBrk) := PS_imp ps_break fun D σ H ⟨A, env, R, p⟩ => p σ A H R (Keep.refl _ _) (Fr.refl _ _ _)
theorem es_continue {pos : Pos} : PS X (.Continue pos) (tEx G XR W fx sCont) := PS_imp ps_continue fun D σ H ⟨A, env, R, p⟩ => p σ A H R (Keep.refl _ _) (Fr.refl _ _ _)
def sIf (t : TF) (g1 g2 : SF) : SF := fun env => bd (t env) fun b e => if b = true then g1 e else g2 e
theorem es_if {c : Expr} {a b : List Stmt} {pos : Pos} {t : TF} {g1 g2 : SF} (hc : PT X c (tEvT G XR W t)) (ha : PSs X a (tEx G XR W fx g1)) (hb : PSs X b (tEx G XR W fx g2)) : PS X (.If c a b pos) (tEx G XR W fx (sIf t g1 g2)) := PS_imp (ps_if hc ha hb) fun D σ H ⟨A, env, R, p⟩ => by
  refine (exT_seq R p).imp fun b H1 ⟨A1, e1, R1, F1, p1⟩ => ?_
  cases b with
  | true => exact ⟨A1, e1, R1, p1⟩
  | false => exact ⟨A1, e1, R1, p1⟩

/-! ### stores -/
theorem Rep.setDat {σ : St} {A : Hid} {H : Hp} {env : Env} (R : Rep G A σ H env) {i : Nat} {d : D} {v : V} (hi : i < env.length) (h : RepD G A H d v) : Rep G A (σ.set i (some v)) H (env.set i (some (.dat d))) ∧ ∀ q, Own (σ.set i (some v)) (env.set i (some (.dat d))) q → Own σ env q := by
  have hs : i < σ.length := by
    rw [← R.len]
    exact hi
  have back : ∀ (j : Nat) (c : D), (env.set i (some (.dat d)))[j]? = some (some (Cell.own c)) → i ≠ j ∧ env[j]? = some (some (Cell.own c)) := fun j c k => by
    by_cases hj : i = j
    · subst hj
      rw [List.getElem?_set_self hi] at k
      cases k
    · rw [List.getElem?_set_ne hj] at k
      exact ⟨hj, k⟩
  refine ⟨⟨by rw [List.length_set, List.length_set]; exact R.len, R.tup, fun j c k => ?_, fun j1 j2 d1 d2 w k1 k2 k3 k4 => ?_⟩, fun q ⟨j, c, k1, k2⟩ => ?_⟩
  · by_cases hj : i = j
    · subst hj
      rw [List.getElem?_set_self hi] at k
      cases k
      exact ⟨v, List.getElem?_set_self hs, h⟩
    · rw [List.getElem?_set_ne hj] at k ⊢
      exact R.cell j c k
  · obtain ⟨n1, m1⟩ := back _ _ k1
    obtain ⟨n2, m2⟩ := back _ _ k2
    rw [List.getElem?_set_ne n1] at k3
    rw [List.getElem?_set_ne n2] at k4
    exact R.inj j1 j2 d1 d2 w m1 m2 k3 k4
  · obtain ⟨n1, m1⟩ := back _ _ k1
    rw [List.getElem?_set_ne n1] at k2
    exact ⟨j, c, m1, k2⟩
theorem Rep.setOwn {σ : St} {A : Hid} {H : Hp} {env : Env} (R : Rep G A σ H env) {i : Nat} {d : D} {p : Addr} (hi : i < env.length) (a : A p) (n : ¬ Own σ env p) (t : RepTop G A H d p) :
    Rep G A (σ.set i (some (.ref p))) H (env.set i (some (.own d))) ∧ ∀ q, Own (σ.set i (some (.ref p))) (env.set i (some (.own d))) q → Own σ env q ∨ q = p := by
  have hs : i < σ.length := by
    rw [← R.len]
    exact hi
  refine ⟨⟨by rw [List.length_set, List.length_set]; exact R.len, R.tup, fun j c k => ?_, fun j1 j2 d1 d2 w k1 k2 k3 k4 => ?_⟩, fun q ⟨j, c, k1, k2⟩ => ?_⟩
  · by_cases hj : i = j
    · subst hj
      rw [List.getElem?_set_self hi] at k
      cases k
      exact ⟨.ref p, List.getElem?_set_self hs, p, rfl, a, t⟩
    · rw [List.getElem?_set_ne hj] at k ⊢
      exact R.cell j c k
  · by_cases h1 : i = j1
    · subst h1
      rw [List.getElem?_set_self hs] at k3
      cases k3
      by_cases h2 : i = j2
      · exact h2
      · rw [List.getElem?_set_ne h2] at k2 k4
        exact absurd ⟨j2, d2, k2, k4⟩ n
    · rw [List.getElem?_set_ne h1] at k1 k3
      by_cases h2 : i = j2
      · subst h2
        rw [List.getElem?_set_self hs] at k4
        cases k4
        exact absurd ⟨j1, d1, k1, k3⟩ n
      · rw [List.getElem?_set_ne h2] at k2 k4
        exact R.inj j1 j2 d1 d2 w k1 k2 k3 k4
  · by_cases hj : i = j
    · subst hj
      rw [List.getElem?_set_self hs] at k2
      cases k2
      exact .inr rfl
    · rw [List.getElem?_set_ne hj] at k1 k2
      exact .inl ⟨j, c, k1, k2⟩
theorem Fr.less {O A O1 O2 A1 : Hid} {H H1 : Hp} (f : Fr O A H O1 A1 H1) (h : ∀ q, O2 q → O1 q ∨ H q = Option.none) : Fr O A H O2 A1 H1 := ⟨f.keep, fun p hp => by
  rcases h p hp with z | z
  · exact f.own p z
  · exact .inr z, f.dom⟩
theorem keep_set {σ : St} {i : Nat} {v : Option V} (h : i ∉ fx) : Keep fx σ (σ.set i v) := fun j hj => by
  rw [List.getElem?_set_ne]
  rintro rfl
  exact h hj

/-- name = value -/
def setK (fx : List Nat) (i : Nat) (o : Out) (e : Env) : Option (Rs Fl) :=
  if i ∈ fx ∨ e.length ≤ i then none else match o with
    | .dat d => some (.ok .next (e.set i (some (.dat d))))
    | .fresh d => some (.ok .next (e.set i (some (.own d))))
    | .slot j => match use e (.slot j) with
      | some (.ok d e2) => some (.ok .next (e2.set i (some (.dat d))))
      | _ => none
def sSet (fx : List Nat) (i : Nat) (f : EF) : SF := fun env => bd (f env) (setK fx i)
theorem use_len {e e2 : Env} {o : Out} {d : D} (h : use e o = some (.ok d e2)) : e2.length = e.length := by
  cases o with
  | dat _ => cases h; rfl
  | fresh _ => cases h; rfl
  | slot i =>
    unfold use at h
    simp only at h
    split at h
    · cases h; rfl
    · cases h
      rw [List.length_set]
    · cases h
theorem set_out {i : Nat} {D : Ends} {σ : St} {A0 A : Hid} {H0 H : Hp} {env0 e : Env} {o : Out} {x : V} (R : Rep G A σ H e) (F0 : Fr (Own σ env0) A0 H0 (Own σ e) A H) (ok : OutOk G H0 A σ H e o x) (p : PostS G XR W fx D σ A0 H0 env0 (setK fx i o e)) : D.nx (σ.set i (some x)) H := by
  unfold setK at p
  split at p
  · exact p.elim
  · rename_i hi
    have h1 : i ∉ fx := fun z => hi (.inl z)
    have h2 : i < e.length := Nat.lt_of_not_le fun z => hi (.inr z)
    cases o with
    | dat d =>
      obtain ⟨R', ow⟩ := R.setDat h2 ok
      exact p _ A H R' (keep_set h1) (F0.less fun q z => .inl (ow q z))
    | fresh d =>
      obtain ⟨q, e1, e2, a, n, t⟩ := ok
      subst e1
      obtain ⟨R', ow⟩ := R.setOwn h2 a n t
      refine p _ A H R' (keep_set h1) (F0.less fun r z => ?_)
      rcases ow r z with w | w
      · exact .inl w
      · rw [w]
        exact .inr e2
    | slot j =>
      simp only at p
      split at p
      · rename_i d e2 hu
        obtain ⟨A2, R2, F2, r2, _⟩ := use_ok R F0 ok hu
        have h3 : i < e2.length := by
          rw [use_len hu]
          exact h2
        obtain ⟨R', ow⟩ := R2.setDat h3 r2
        exact p _ A2 H R' (keep_set h1) (F2.less fun q z => .inl (ow q z))
      · exact p.elim
theorem es_set {i : Nat} {x : Str} {e : Expr} {f : EF} {pos pos' : Pos} (hN : X.N.Nodup) (hi : X.N[i]? = some x) (hx : Loc X.env.scope x) (he : PE X e (tEv G XR W f)) (hs : swapsWith e (some (.Name x pos')) pos.line X.env = pure false := by rfl)
    (hf : X.fn x = true ∨ X.env.scope.names.lookup x = some .local := by first | exact .inl rfl | exact .inr rfl | assumption) : PS X (.Assign [.Name x pos'] e pos) (tEx G XR W fx (sSet fx i f)) := PS_imp (ps_set hN hi hx he hs hf) fun D σ H ⟨A, env, R, p⟩ => by
  unfold sSet at p
  refine ⟨A, env, R, ?_⟩
  cases hf : f env with
  | none =>
    rw [hf] at p
    exact p
  | some r =>
    rw [hf] at p
    cases r with
    | ok o e1 => exact fun A1 H1 R1 F1 v ov => set_out R1 F1 ov p
    | ex x e1 => exact fun A1 H1 c d R1 F1 xr => p σ A1 H1 c d R1 (Keep.refl _ _) F1 xr

/-! ### targets -/
abbrev GF := D → Env → Option (Rs Unit)
abbrev GFs := List D → Env → Option (Rs Unit)
def PostG (G : Tb) (XR : XW) (W : WX) (fx : List Nat) (Q : St → Hp → Prop) (σ : St) (A : Hid) (H : Hp) (env : Env) : Option (Rs Unit) → Prop
  | none => False
  | some (.ok _ e) => ∀ σ' A' H', Rep G A' σ' H' e → Keep fx σ σ' → Fr (Own σ env) A H (Own σ' e) A' H' → Q σ' H'
  | some (.ex x e) => ∀ σ' A' H' c d, Rep G A' σ' H' e → Keep fx σ σ' → Fr (Own σ env) A H (Own σ' e) A' H' → XR G x c d A' H' → W c d σ' H'
theorem PostG.imp {Q Q' : St → Hp → Prop} {σ σ1 : St} {A A1 : Hid} {H H1 : Hp} {env env1 : Env} (l : ∀ σ H, Q σ H → Q' σ H) (k : Keep fx σ σ1) (f : Fr (Own σ env) A H (Own σ1 env1) A1 H1) : ∀ {r : Option (Rs Unit)}, PostG G XR W fx Q σ A H env r → PostG G XR W fx Q' σ1 A1 H1 env1 r
  | none, q => q
  | some (.ok _ e), q => fun σ' A' H' R K F => l _ _ (q σ' A' H' R (k.trans K) (f.trans F))
  | some (.ex x e), q => fun σ' A' H' c d R K F xr => q σ' A' H' c d R (k.trans K) (f.trans F) xr
variable (G XR W fx) in
def tEvG (g : GF) : TG := fun v σ H Q => ∃ A env d, Rep G A σ H env ∧ RepD G A H d v ∧ PostG G XR W fx Q σ A H env (g d env)
variable (G XR W fx) in
def tEvGs (g : GFs) : TGs := fun vs σ H Q => ∃ A env ds, Rep G A σ H env ∧ RepDs G A H ds vs ∧ PostG G XR W fx Q σ A H env (g ds env)
theorem PG_imp {X : Cx} {e : Expr} {t t' : TG} (h : PG X e t) (i : ∀ v σ H Q, t' v σ H Q → t v σ H Q) : PG X e t' := ⟨fun pins s σ H v u Q I r q => h.run pins s σ H v u Q I r (i v σ H Q q)⟩
theorem PGs_imp {X : Cx} {e : List Expr} {t t' : TGs} (h : PGs X e t) (i : ∀ v σ H Q, t' v σ H Q → t v σ H Q) : PGs X e t' := ⟨fun pins s σ H v u Q I r q => h.run pins s σ H v u Q I r (i v σ H Q q)⟩
def gNm (fx : List Nat) (i : Nat) : GF := fun d env => if i ∈ fx ∨ env.length ≤ i then none else some (.ok () (env.set i (some (.dat d))))
theorem eg_name {i : Nat} {x : Str} {pos : Pos} (h : PG X (.Name x pos) (gName i)) : PG X (.Name x pos) (tEvG G XR W fx (gNm fx i)) := PG_imp h fun v σ H Q ⟨A, env, d, R, r, p⟩ => by
  unfold gNm at p
  split at p
  · exact p.elim
  · rename_i hi
    have h1 : i ∉ fx := fun z => hi (.inl z)
    have h2 : i < env.length := Nat.lt_of_not_le fun z => hi (.inr z)
    obtain ⟨R', ow⟩ := R.setDat h2 r
    exact p _ A H R' (keep_set h1) ((Fr.refl _ _ _).less fun q z => .inl (ow q z))
def gsNil : GFs := fun ds env => match ds with
  | [] => some (.ok () env)
  | _ => none
def gsCons (g : GF) (gs : GFs) : GFs := fun ds env => match ds with
  | d :: r => bd (g d env) fun _ e => gs r e
  | [] => none
theorem egs_nil : PGs X [] (tEvGs G XR W fx gsNil) := PGs_imp pgs_nil fun vs σ H Q ⟨A, env, ds, R, r, p⟩ => by
  cases ds with
  | nil => exact ⟨r.inv0, p σ A H R (Keep.refl _ _) (Fr.refl _ _ _)⟩
  | cons d ds => exact p.elim
theorem egs_cons {e : Expr} {es : List Expr} {g : GF} {gs : GFs} (h1 : PG X e (tEvG G XR W fx g)) (h2 : PGs X es (tEvGs G XR W fx gs)) (hs : (assignEach (e :: es) X.env).map (·.2) = assign e X.env :: (assignEach es X.env).map (·.2) := by rfl) :
    PGs X (e :: es) (tEvGs G XR W fx (gsCons g gs)) := PGs_imp (pgs_cons h1 h2 hs) fun vs σ H Q ⟨A, env, ds, R, r, p⟩ => by
  cases ds with
  | nil => exact p.elim
  | cons d ds =>
    obtain ⟨v, vr, rfl, r1, r2⟩ := r.inv
    refine ⟨v, vr, rfl, A, env, d, R, r1, ?_⟩
    unfold gsCons at p
    simp only at p
    cases hg : g d env with
    | none =>
      rw [hg] at p
      exact p
    | some q =>
      rw [hg] at p
      cases q with
      | ok u e1 => exact fun σ' A' H' R' K F => ⟨A', e1, ds, R', RepDs.mono (F.stab fun p q => R.own_hid q) R.tup _ _ r2, PostG.imp (fun _ _ h => h) K F p⟩
      | ex x e1 => exact p
def gTp (n : Nat) (gs : GFs) : GF := fun d env => match d with
  | .tup ds => if ds.length = n then gs ds env else none
  | _ => none
theorem eg_tup {es : List Expr} {k : Nat} {pos : Pos} {gs : GFs} {n : Nat} (hc : X.calm = true) (hk : X.K = G.K) (h : PGs X es (tEvGs G XR W fx gs)) (hn : (assignEach es X.env).length = n := by rfl) (hst : (assignEach es X.env).findIdx? (·.1) = none := by rfl) :
    PG X (.Tuple es k pos) (tEvG G XR W fx (gTp n gs)) := PG_imp (pg_tup hc h hn hst) fun v σ H Q ⟨A, env, d, R, r, p⟩ => by
  cases d with
  | tup ds =>
    unfold RepD at r
    obtain ⟨a, vs, e, q, r⟩ := r
    unfold gTp at p
    simp only at p
    split at p
    · rename_i hl
      rw [← hk] at q
      exact ⟨a, vs, e, q, by rw [← r.length]; exact hl, A, env, ds, R, r, p⟩
    · exact p.elim
  | _ => exact p.elim
/-- target = value -/
def sAsg (f : EF) (g : GF) : SF := fun env => bd (cUse f env) fun d e => bd (g d e) fun _ e2 => some (.ok .next e2)
theorem asg_post {D : Ends} {σ : St} {A : Hid} {H : Hp} {env : Env} {r : Option (Rs Unit)} (p : PostS G XR W fx D σ A H env (bd r fun _ e2 => some (.ok .next e2))) : PostG G XR W fx D.nx σ A H env r := by
  cases r with
  | none => exact p
  | some q =>
    cases q with
    | ok u e => exact p
    | ex x e => exact p
theorem es_asg {tg e : Expr} {pos : Pos} {f : EF} {g : GF} (he : PE X e (tEv G XR W f)) (hg : PG X tg (tEvG G XR W fx g)) (hs : swapsWithSole [tg] e pos.line X.env = pure false := by rfl) (hw : swappedStores [tg] e X.env = pure none := by rfl)
    (h1 : (assignEach [tg] X.env).map (·.2) = [assign tg X.env] := by rfl) : PS X (.Assign [tg] e pos) (tEx G XR W fx (sAsg f g)) := PS_imp (ps_asg (ev_use he) hg hs hw h1) fun D σ H ⟨A, env, R, p⟩ => by
  refine (exU_seq R p).imp fun x H1 ⟨A1, e1, d1, R1, r1, F1, p1⟩ => ?_
  exact ⟨A1, e1, d1, R1, r1, asg_post p1⟩

/-! ### while -/
def forK (k : Env → Option (Rs Fl)) (fl : Fl) (e2 : Env) : Option (Rs Fl) := match fl with
    | .next => k e2
    | .cont => k e2
    | .brk => some (.ok .next e2)
    | .ret o => some (.ok (.ret o) e2)
def whileG (t : TF) (g : SF) : Nat → SF
  | 0 => fun _ => none
  | n + 1 => fun env => bd (t env) fun b e => if b = true then bd (g e) (forK (whileG t g n)) else some (.ok .next e)
theorem loop_post {g : SF} {k : Env → Option (Rs Fl)} {D : Ends} {N : St → Hp → Prop} {σ : St} {A : Hid} {H : Hp} {env : Env} (hN : ∀ σ' A' H' e, Rep G A' σ' H' e → Keep fx σ σ' → Fr (Own σ env) A H (Own σ' e) A' H' → PostS G XR W fx D σ' A' H' e (k e) → N σ' H')
    (p : PostS G XR W fx D σ A H env (bd (g env) (forK k))) : PostS G XR W fx { D with nx := N, ct := N, bk := D.nx } σ A H env (g env) := by
  cases hg : g env with
  | none =>
    rw [hg] at p
    exact p
  | some r =>
    rw [hg] at p
    cases r with
    | ex x e => exact p
    | ok fl e =>
      rw [bd_ok] at p
      cases fl with
      | next => exact fun σ' A' H' R K F => hN σ' A' H' e R K F (PostS.imp (Ends.Le.refl _) K F p)
      | brk => exact p
      | cont => exact fun σ' A' H' R K F => hN σ' A' H' e R K F (PostS.imp (Ends.Le.refl _) K F p)
      | ret o => exact p
theorem es_while {c : Expr} {body : List Stmt} {pos : Pos} {t : TF} {g : SF} (n : Nat) (hp : PassesOwn (model X.prog X.w) X.A X.env X.xe) (hc : PT X c (tEvT G XR W t)) (hb : PSs X body (tEx G XR W fx g)) : PS X (.While c body [] pos) (tEx G XR W fx (whileG t g n)) :=
  PS_imp (ps_while hp hc hb) fun D σ H ⟨A, env, R, p⟩ => by
    refine ⟨fun m σ H => ∃ A env, Rep G A σ H env ∧ PostS G XR W fx D σ A H env (whileG t g m env), ⟨n, A, env, R, p⟩, ?_⟩
    rintro m σ1 H1 ⟨A1, e1, R1, p1⟩
    cases m with
    | zero => exact p1.elim
    | succ m =>
      refine (exT_seq R1 p1).imp fun b H2 ⟨A2, e2, R2, F2, p2⟩ => ?_
      cases b with
      | true =>
        refine ⟨fun σ' H' => ∃ A' e', Rep G A' σ' H' e' ∧ PostS G XR W fx D σ' A' H' e' (whileG t g m e'), fun σ' H' ⟨A', e', R', p'⟩ => ⟨m, Nat.lt_succ_self m, A', e', R', p'⟩, ?_⟩
        exact ⟨A2, e2, R2, loop_post (k := whileG t g m) (fun σ' A' H' e R' K F q => ⟨A', e, R', q⟩) p2⟩
      | false => exact p2.now R2

/-! ### what is walked -/
def ItOk (G : Tb) (J : It) (A : Hid) (H : Hp) (ds : List D) : Prop := ∀ A2 H2, TupOk A2 H2 → Stab A H A2 H2 → (∀ (i : Nat) d, ds[i]? = some d → J.go i H2 ∧ ∀ x H3, J.yld i H2 x H3 → Ext A2 H2 A2 H3 ∧ RepD G A2 H3 d x) ∧ J.stop ds.length H2
variable (G XR W) in
def tEvI (f : AF) : TI := fun σ H R => ∃ A env, Rep G A σ H env ∧ Post G XR W σ A H env (fun ds _ A' H' => ∀ J, ItOk G J A' H' ds → R J H') (f env)
theorem PI_imp {X : Cx} {tg e : Expr} {t t' : TI} (h : PI X tg e t) (i : ∀ σ H Q, t' σ H Q → t σ H Q) : PI X tg e t' := ⟨fun pins s σ H Q I q => h.run pins s σ H Q I (i σ H Q q)⟩
theorem PI_or {X : Cx} {tg e : Expr} {t u : TI} (h : PI X tg e t) (k : PI X tg e u) : PI X tg e (fun σ H R => t σ H R ∨ u σ H R) := ⟨fun pins s σ H Q I q => by
  rcases q with q | q
  · exact h.run pins s σ H Q I q
  · exact k.run pins s σ H Q I q⟩

theorem it_list {A : Hid} {H : Hp} {a : Addr} {vs : List V} {ds : List D} (t : TupOk A H) (h : SeenL G A H a vs) (r : RepDs G A H ds vs) : ItOk G (Itl G.K a) A H ds := fun A2 H2 t2 s => by
  have h2 : SeenL G A2 H2 a vs := ⟨(s a _ h.2 h.1).2, (s a _ h.2 h.1).1⟩
  have r2 := RepDs.mono s t _ _ r
  refine ⟨fun i d e => ?_, vs, h2.sq, ?_⟩
  · obtain ⟨v, e1, k⟩ := r2.get e
    refine ⟨⟨vs, v, h2.sq, e1⟩, fun x H3 y => ?_⟩
    obtain ⟨e2, y⟩ := y
    have e3 := y vs h2.sq
    rw [e1] at e3
    cases e3
    subst e2
    exact ⟨Ext.refl t2, k⟩
  · rw [r.length]
    exact Nat.le_refl _
theorem it_tup {A : Hid} {H : Hp} {a : Addr} {vs : List V} {ds : List D} (t : TupOk A H) (h : SqT G.K H a vs) (r : RepDs G A H ds vs) : ItOk G (Itt G.K a) A H ds := fun A2 H2 t2 s => by
  have h2 := s.sqT t h
  have r2 := RepDs.mono s t _ _ r
  refine ⟨fun i d e => ?_, vs, h2, ?_⟩
  · obtain ⟨v, e1, k⟩ := r2.get e
    refine ⟨⟨vs, v, h2, e1⟩, fun x H3 y => ?_⟩
    obtain ⟨e2, y⟩ := y
    have e3 := y vs h2
    rw [e1] at e3
    cases e3
    subst e2
    exact ⟨Ext.refl t2, k⟩
  · rw [r.length]
    exact Nat.le_refl _
def signs (x : Str) : List D := x.cps.toList.map fun c => .str ⟨#[c]⟩
theorem it_str {A : Hid} {H : Hp} {x : Str} : ItOk G (Its x) A H (signs x) := fun A2 H2 t2 s => by
  refine ⟨fun i d e => ?_, ?_⟩
  · unfold signs at e
    rw [List.getElem?_map] at e
    cases hc : x.cps.toList[i]? with
    | none =>
      rw [hc] at e
      cases e
    | some c =>
      rw [hc] at e
      cases e
      have hl := (List.getElem?_eq_some_iff.mp hc).1
      refine ⟨by show i < x.cps.size; simpa using hl, fun v H3 y => ?_⟩
      obtain ⟨e2, c', e3, e4⟩ := y
      subst e2
      rw [← Array.getElem?_toList, hc] at e3
      cases e3
      refine ⟨Ext.refl t2, ?_⟩
      unfold RepD
      exact e4
  · show x.cps.size ≤ (signs x).length
    unfold signs
    simp
/-- a list, a tuple, a text -/
def iter1 : D → Option (List D)
  | .lst ds => some ds
  | .tup ds => some ds
  | .str x => some (signs x)
  | _ => none
def iIt (f : EF) : AF := fun env => bd (cUse f env) fun d e => match iter1 d with
  | some ds => some (.ok ds e)
  | none => none
theorem ei_seq {tg e : Expr} {f : EF} (hk : X.K = G.K) (h : PE X e (tEv G XR W f)) : PI X tg e (tEvI G XR W (iIt f)) :=
  PI_imp (PI_or (pi_list (ev_use h)) (PI_or (pi_tup (ev_use h)) (pi_str (ev_use h)))) fun σ H Rr ⟨A, env, R, p⟩ => by
    unfold iIt at p
    cases hf : cUse f env with
    | none =>
      rw [hf] at p
      exact p.elim
    | some r =>
      rw [hf] at p
      cases r with
      | ex x e1 => exact .inl ⟨A, env, R, by rw [hf]; exact p⟩
      | ok d e1 =>
        rw [bd_ok] at p
        cases d with
        | lst ds =>
          refine .inl ⟨A, env, R, ?_⟩
          rw [hf]
          intro A1 H1 R1 F1 v k
          unfold RepD at k
          obtain ⟨a, vs, ev, q, rr⟩ := k
          refine ⟨a, ev, ⟨vs, by rw [hk]; exact q.sq⟩, ?_⟩
          rw [hk]
          exact p A1 H1 R1 F1 _ (it_list R1.tup q rr)
        | tup ds =>
          refine .inr (.inl ⟨A, env, R, ?_⟩)
          rw [hf]
          intro A1 H1 R1 F1 v k
          unfold RepD at k
          obtain ⟨a, vs, ev, q, rr⟩ := k
          refine ⟨a, ev, ⟨vs, by rw [hk]; exact q⟩, ?_⟩
          rw [hk]
          exact p A1 H1 R1 F1 _ (it_tup R1.tup q rr)
        | str x =>
          refine .inr (.inr ⟨A, env, R, ?_⟩)
          rw [hf]
          intro A1 H1 R1 F1 v k
          unfold RepD at k
          exact ⟨x, k, p A1 H1 R1 F1 _ it_str⟩
        | non => exact p.elim
        | bl _ => exact p.elim
        | int _ => exact p.elim
        | dct _ _ => exact p.elim
        | obj _ _ => exact p.elim
        | fn _ => exact p.elim
        | scr _ => exact p.elim
def intsFrom (lo : Int) (n : Nat) : List D := (List.range n).map fun (i : Nat) => D.int (lo + (i : Int))
theorem it_range {A : Hid} {H : Hp} {lo : Int} {n : Nat} : ItOk G (Itr lo n) A H (intsFrom lo n) := fun A2 H2 t2 s => by
  refine ⟨fun i d e => ?_, ?_⟩
  · unfold intsFrom at e
    rw [List.getElem?_map] at e
    by_cases hi : i < n
    · rw [List.getElem?_range hi] at e
      cases e
      refine ⟨hi, fun v H3 y => ?_⟩
      obtain ⟨e2, e4⟩ := y
      subst e2
      refine ⟨Ext.refl t2, ?_⟩
      unfold RepD
      exact e4
    · rw [List.getElem?_eq_none (by simpa using hi)] at e
      cases e
  · show n ≤ (intsFrom lo n).length
    unfold intsFrom
    simp
def small62 (i : Int) : Bool := decide (-(2 ^ 62) ≤ i) && decide (i < 2 ^ 62)
theorem small62.ok {i : Int} (h : small62 i = true) : -(2 ^ 62) ≤ i ∧ i < 2 ^ 62 := by
  unfold small62 at h
  rw [Bool.and_eq_true] at h
  exact ⟨of_decide_eq_true h.1, of_decide_eq_true h.2⟩
def iRg1 (a : AF) : AF := fun env => bd (a env) fun ds e => match ds with
  | [.int j] => if small62 j = true then some (.ok (intsFrom 0 j.toNat) e) else none
  | _ => none
def iRg2 (a : AF) : AF := fun env => bd (a env) fun ds e => match ds with
  | [.int i, .int j] => if small62 i = true ∧ small62 j = true then some (.ok (intsFrom i (j - i).toNat) e) else none
  | _ => none
theorem int_of {A : Hid} {H : Hp} {i : Int} {x : V} (h : RepD G A H (.int i) x) : x = .int i := by
  unfold RepD at h
  exact h
theorem ei_range1 {tg a : Expr} {p pos : Pos} {f : AF} (hg : Gl X "range") (hm : X.mg "range" = none) (ha : PA X [a] (tEvA G XR W f)) (hs : starEach [a] X.env = [(false, eval a X.env)] := by rfl) : PI X tg (.Call (.Name "range" p) [a] [] pos) (tEvI G XR W (iRg1 f)) :=
  PI_imp (pi_range1 hg hm ha hs) fun σ H Rr ⟨A, env, R, p⟩ => by
    refine (evA_seq R p).imp fun xs H1 ⟨A1, e1, ds, R1, k1, F1, p1⟩ => ?_
    split at p1
    · rename_i j
      split at p1
      · rename_i hz
        obtain ⟨v, r, rfl, h1, h2⟩ := k1.inv
        obtain rfl := h2.inv0
        exact ⟨j, by rw [int_of h1], (small62.ok hz).1, (small62.ok hz).2, p1 A1 H1 R1 (Fr.refl _ _ _) _ it_range⟩
      · exact p1.elim
    · exact p1.elim
theorem ei_range2 {tg a b : Expr} {p pos : Pos} {f : AF} (hg : Gl X "range") (hm : X.mg "range" = none) (ha : PA X [a, b] (tEvA G XR W f)) (hs : starEach [a, b] X.env = [(false, eval a X.env), (false, eval b X.env)] := by rfl) (hs2 : starEach [b] X.env = [(false, eval b X.env)] := by rfl) :
    PI X tg (.Call (.Name "range" p) [a, b] [] pos) (tEvI G XR W (iRg2 f)) :=
  PI_imp (pi_range2 hg hm ha hs hs2) fun σ H Rr ⟨A, env, R, p⟩ => by
    refine (evA_seq R p).imp fun xs H1 ⟨A1, e1, ds, R1, k1, F1, p1⟩ => ?_
    split at p1
    · rename_i i j
      split at p1
      · rename_i hz
        obtain ⟨v, r, rfl, h1, h2⟩ := k1.inv
        obtain ⟨v2, r2, rfl, h3, h4⟩ := h2.inv
        obtain rfl := h4.inv0
        have z1 := small62.ok hz.1
        have z2 := small62.ok hz.2
        exact ⟨i, j, by rw [int_of h1, int_of h3], ⟨z1.1, z1.2, z2.1, z2.2⟩, p1 A1 H1 R1 (Fr.refl _ _ _) _ it_range⟩
      · exact p1.elim
    · exact p1.elim

/-! ### for -/
def forG (g : GF) (b : SF) : List D → SF
  | [] => fun env => some (.ok .next env)
  | d :: ds => fun env => bd (g d env) fun _ e => bd (b e) (forK (forG g b ds))
def sFor (it : AF) (g : GF) (b : SF) : SF := fun env => bd (it env) fun ds e => forG g b ds e
theorem exI_seq {f : AF} {k : List D → Env → Option (Rs Fl)} {D : Ends} {σ : St} {A : Hid} {H : Hp} {env : Env} (R : Rep G A σ H env) (p : PostS G XR W fx D σ A H env (bd (f env) k)) :
    tEvI G XR W f σ H (fun J H1 => ∃ A1 env1 ds, Rep G A1 σ H1 env1 ∧ ItOk G J A1 H1 ds ∧ Fr (Own σ env) A H (Own σ env1) A1 H1 ∧ PostS G XR W fx D σ A1 H1 env1 (k ds env1)) := by
  refine ⟨A, env, R, ?_⟩
  cases hf : f env with
  | none =>
    rw [hf] at p
    exact p
  | some r =>
    rw [hf] at p
    cases r with
    | ok o e1 => exact fun A1 H1 R1 F1 J ij => ⟨A1, e1, o, R1, ij, F1, PostS.imp (Ends.Le.refl _) (Keep.refl _ _) F1 p⟩
    | ex x e1 => exact fun A1 H1 c d R1 F1 xr => p σ A1 H1 c d R1 (Keep.refl _ _) F1 xr
theorem tEvI.imp {f : AF} {σ : St} {H : Hp} {Q Q' : It → Hp → Prop} (h : tEvI G XR W f σ H Q) (i : ∀ v H', Q v H' → Q' v H') : tEvI G XR W f σ H Q' := by
  obtain ⟨A, env, R, p⟩ := h
  exact ⟨A, env, R, Post.imp (Fr.refl _ _ _) (fun _ _ _ _ _ q v o => i _ _ (q v o)) p⟩
/-- the target, then the rest -/
theorem postG_of {r : Option (Rs Unit)} {k : Env → Option (Rs Fl)} {D : Ends} {Q : St → Hp → Prop} {σ : St} {A : Hid} {H : Hp} {env : Env} (hN : ∀ σ' A' H' e, Rep G A' σ' H' e → Keep fx σ σ' → Fr (Own σ env) A H (Own σ' e) A' H' → PostS G XR W fx D σ' A' H' e (k e) → Q σ' H')
    (p : PostS G XR W fx D σ A H env (bd r fun _ e => k e)) : PostG G XR W fx Q σ A H env r := by
  cases r with
  | none => exact p
  | some q =>
    cases q with
    | ok u e => exact fun σ' A' H' R K F => hN σ' A' H' e R K F (PostS.imp (Ends.Le.refl _) K F p)
    | ex x e => exact p
theorem es_for {tg iter : Expr} {body : List Stmt} {pos : Pos} {it : AF} {g : GF} {b : SF} (hp : PassesOwn (model X.prog X.w) X.A X.env X.xe) (hc : X.calm = true) (hi : PI X tg iter (tEvI G XR W it)) (hg : PG X tg (tEvG G XR W fx g)) (hb : PSs X body (tEx G XR W fx b))
    (hs : ∀ x, foldedSetIterable iter X.env x = pure x := by intro _; rfl) : PS X (.For tg iter body [] pos) (tEx G XR W fx (sFor it g b)) := PS_imp (ps_for hp hc hi hg hb hs) fun D σ H ⟨A, env, R, p⟩ => by
  refine (exI_seq R p).imp fun J H1 ⟨A1, e1, ds, R1, ij, F1, p1⟩ => ?_
  refine ⟨fun i m σ H => i ≤ ds.length ∧ m = ds.length - i ∧ ∃ A env, Rep G A σ H env ∧ Stab A1 H1 A H ∧ PostS G XR W fx D σ A H env (forG g b (ds.drop i) env), ⟨_, Nat.zero_le _, rfl, A1, e1, R1, Stab.refl _ _, p1⟩, ?_⟩
  rintro i m σ2 H2 ⟨hi, rfl, A2, e2, R2, s2, p2⟩
  obtain ⟨turn, stop⟩ := ij A2 H2 R2.tup s2
  by_cases hl : i < ds.length
  · have ed : ds.drop i = ds[i] :: ds.drop (i + 1) := List.drop_eq_getElem_cons hl
    rw [ed] at p2
    obtain ⟨go, yl⟩ := turn i ds[i] (List.getElem?_eq_getElem hl)
    refine .inr ⟨go, fun σ' H' => ∃ A env, Rep G A σ' H' env ∧ Stab A1 H1 A H' ∧ PostS G XR W fx D σ' A H' env (forG g b (ds.drop (i + 1)) env), fun σ' H' ⟨A', e', R', s', p'⟩ => ⟨ds.length - (i + 1), by omega, hl, rfl, A', e', R', s', p'⟩, fun x H3 y => ?_⟩
    obtain ⟨ex, rd⟩ := yl x H3 y
    have R3 := ex.rep R2
    have p3 : PostS G XR W fx D σ2 A2 H3 e2 (bd (g ds[i] e2) fun _ e => bd (b e) (forK (forG g b (ds.drop (i + 1))))) := PostS.imp (Ends.Le.refl _) (Keep.refl _ _) (ex.fr _) p2
    refine ⟨A2, e2, ds[i], R3, rd, postG_of (fun σ4 A4 H4 e4 R4 K4 F4 p4 => ?_) p3⟩
    have s4 : Stab A1 H1 A4 H4 := (s2.trans ex.stab).trans (F4.stab fun p q => R3.own_hid q)
    exact ⟨A4, e4, R4, loop_post (k := forG g b (ds.drop (i + 1))) (fun σ5 A5 H5 e5 R5 K5 F5 p5 => ⟨A5, e5, R5, s4.trans (F5.stab fun p q => R4.own_hid q), p5⟩) p4⟩
  · have hn : i = ds.length := by omega
    subst hn
    rw [List.drop_length] at p2
    exact .inl ⟨stop, p2.now R2⟩
end
end Tk
/-! Tk4: defs and their calls. -/
namespace Tk
open PySem PySem.Spec PyProof.Rows L2

/-- a def keeps a promise wherever no repr is under way -/
structure FnG (P : Program) (w : World) (K : PySem.W.Frag) (mg : Str → Option Value) (base : Heap) (k : Nat) (f : Addr) (fd : FuncData) (ps : List Str) (sp : Sp) : Prop where
  len : ∀ vs H Q E, sp vs H Q E → vs.length = ps.length
  run : ∀ (A : Around) (outer : List PySem.Env) (s : Shared) (H : Hp) (args : Args) (us : List Value) (vs : List V) (Q : VK) (E : XK), Room k A → A.guards = some [] → Env0 P w K mg base A outer s H → BindsTo s fd args (ps.zip us) → Vals vs us → sp vs H Q E →
    codeAny (model P w) A (.call (.ref f) args) (CR (L2.CX P w) outer P w H s Q E) s

section
variable {P : Program} {w : World} {K : PySem.W.Frag} {mg : Str → Option Value} {base : Heap}
theorem FnG.mono {j k : Nat} {f : Addr} {fd : FuncData} {ps : List Str} {sp : Sp} (F : FnG P w K mg base j f fd ps sp) (h : j ≤ k) : FnG P w K mg base k f fd ps sp :=
  ⟨F.len, fun A outer s H args us vs Q E hr hg => F.run A outer s H args us vs Q E (hr.mono h) hg⟩

/-- a def by its body -/
theorem fng_of {x qual : Str} {st : Stmt} {f : Addr} {fd : FuncData} {N ps : List Str} {k : Nat} {sp : Sp} (F : Fun K x qual st f fd) (S : FnScope N ps (defScope st)) (len : ∀ vs H Q E, sp vs H Q E → vs.length = ps.length)
    (hbody : ∀ (cdv : Value) (A : Around) (outer : List PySem.Env) (s : Shared) (H : Hp) (vs : List V) (Q : VK) (E : XK), Room k (A.deeper (envOfC qual (defScope st) s.heap.objs.size f cdv)) → A.guards = some [] → sp vs H Q E →
      ∃ t, PSs (cxOf (L2.CX P w) P w K mg base N qual (defScope st) f cdv A outer s H E) (defBody st) t ∧ t { nx := fun _ H' => Q .non H', rt := Q } (L2.start N vs) H) : FnG P w K mg base (k + 1) f fd ps sp := by
  obtain ⟨oc, od, kV, doc, pm, an, cdv, ct, osl, rfl, lk, hcd⟩ := F.ex
  refine ⟨len, fun A outer s H args us vs Q E room hg env0 bind rel hsp => ?_⟩
  have hl := len _ _ _ _ hsp
  have inK : K.In s.heap := env0.mod.kin.keeps fun b o e => (env0.bs b o e).1
  have noLim : s.heap.NoLimit := env0.mod.nolimit.keeps fun b o e => (env0.bs b o e).1
  have kinds : ∀ y ∈ ps.zip us, (defScope st).names.lookup y.1 = some .local ∨ ((defScope st).names.lookup y.1 = some .cell ∧ ((cellsFrom (s.heap.objs.size + 1) (defScope st).names []).lookup y.1).isSome = true) := by
    rintro ⟨n, v⟩ hy
    rcases S.par n (List.of_mem_zip hy).1 with q | q
    · exact .inl q
    · exact .inr ⟨q, PySem.W.cellsFrom_some _ _ _ (.inl q)⟩
  refine codeAny_call_function room.depth (inK _ _ lk) rfl S.co S.gen rfl (PySem.W.codeRec_of inK hcd) (bind _ _ _ _ ?_)
  refine wpAny_newFunctionEnv_cells S.kind kinds fun env he s1 entry => ?_
  subst he
  refine ⟨noLim.keeps entry.toInCall.keep, codeAny_func ?_⟩
  obtain ⟨t, ht, hq⟩ := hbody cdv A outer s H vs Q E (room.deeper _) hg hsp
  have I : Inv (cxOf (L2.CX P w) P w K mg base N qual (defScope st) f cdv A outer s H E) [] (L2.start N vs) H s1 := inv_start S room.hd env0 hl rel entry
  refine wpAny_mono (ht.run [] s1 (L2.start N vs) H _ I hq) (fun fl s' hs => ?_) fun e s' hs => hs
  cases fl with
  | ret u =>
    obtain ⟨v, σ', H', J, rv, q⟩ := hs
    exact ⟨v, H', J.os, J.bare, J.base, J.hok, rv, q⟩
  | next =>
    obtain ⟨σ', H', J, q⟩ := hs
    exact ⟨V.non, H', J.os, J.bare, J.base, J.hok, rfl, q⟩
  | brk =>
    obtain ⟨_, _, _, q⟩ := hs
    exact q.elim
  | cont =>
    obtain ⟨_, _, _, q⟩ := hs
    exact q.elim
end

/-! ### the call of such a def -/
section
variable {X : Cx} {k : Nat} {f : Addr} {fd : FuncData} {ps ks : List Str} {sp : Sp} {W : WX} {x : Str} {p pos : Pos} {e : Expr} {es : List Expr} {kws : List Keyword} {t tk : TA}
def tCallG (sp : Sp) (W : WX) (t : TA) : TE := fun σ H Q => t σ H fun vs H1 => sp vs H1 Q fun c d H' => W c d σ H'
def tCallGK (sp : Sp) (gV : List V → List V → List V) (W : WX) (t tk : TA) : TE := fun σ H Q => t σ H fun vs H1 => tk σ H1 fun zs H2 => sp (gV vs zs) H2 Q fun c d H' => W c d σ H'
theorem run_g {pins : List (Addr × Obj)} {σ : L2.St} {H : Hp} {s : Shared} {Q : VK} {us : List Value} {kw : List (Str × Value)} {as : List Value} {vs : List V} (F : FnG X.prog X.w X.K X.mg X.base k f fd ps sp) (hr : Room k X.A) (hg : X.A.guards = some []) (tk : Takes X W) (I : Inv X pins σ H s)
    (hb : BindsTo s fd ⟨us, kw⟩ (ps.zip as)) (r : Vals vs as) (h : sp vs H Q fun c d H' => W c d σ H') : wpAny (model X.prog X.w) X.A (call (.ref f) us kw) (EP X pins σ Q) X.xe s := by
  refine wpAny_call (codeAny_mono (F.run X.A X.stack s H ⟨us, kw⟩ as vs Q _ hr hg I.env0 hb r h) fun r s' hq => ?_)
  cases r with
  | error e => exact tk e s' (XE.of_call I (fun _ _ _ z => z) hq)
  | ok fl =>
    cases fl with
    | ret u => exact I.after hq
    | next => exact hq.elim
    | brk => exact hq.elim
    | cont => exact hq.elim
theorem pe_callG (F : FnG X.prog X.w X.K X.mg X.base k f fd ps sp) (hr : Room k X.A) (hgu : X.A.guards = some []) (tk : Takes X W) (hg : Gl X x) (hm : X.mg x = some (.ref f)) (hk : PySem.W.keepIn X.K (.ref f) = true) (hb : Binds X.K fd ps [])
    (ha : PA X (e :: es) t) (hdb : (x == ("__debug__" : Str)) = false := by decide) (he : starEach (e :: es) X.env = (false, eval e X.env) :: starEach es X.env := by rfl) (hpl : (backTo pos (starEach es X.env)).any (·.1) = false := by rfl) :
    PE X (.Call (.Name x p) (e :: es) [] pos) (tCallG sp W t) := by
  refine ⟨fun pins s σ H Q I h => ?_⟩
  refine wpAny_Call_Name_kw (ld_glob I hg hm (PySem.W.callWith_K (h₀ := X.base) I.ok.mod.kin hk (thn (ha.run pos pins s σ H _ I h) fun us s1 ⟨vs, H1, I1, r, q⟩ => ⟨I1.kIn, ?_⟩) he hpl) hdb)
  have hl : (us ++ []).length = ps.length := by
    rw [List.append_nil, ← r.length]
    exact F.len _ _ _ _ q
  have hb1 := hb s1 us I1.kIn hl
  rw [List.append_nil] at hb1
  exact run_g F hr hgu tk I1 hb1 r q
/-- keywords alone: g puts their values in the parameters' order -/
theorem pe_callGK {g : List Value → List Value → List Value} {gV : List V → List V → List V} (F : FnG X.prog X.w X.K X.mg X.base k f fd ps sp) (hr : Room k X.A) (hgu : X.A.guards = some []) (tk' : Takes X W) (hg : Gl X x) (hm : X.mg x = some (.ref f)) (hk : PySem.W.keepIn X.K (.ref f) = true) (hb : KBinds X.K fd ps ks g gV)
    (ha : PA X (e :: es) t) (hkw : PK X kws tk) (hall : (backToKw pos (keywordEach kws X.env)).all (·.1.isSome) = true := by rfl) (hks : (backToKw pos (keywordEach kws X.env)).filterMap (·.1) = ks := by rfl)
    (hdb : (x == ("__debug__" : Str)) = false := by decide) (he : starEach (e :: es) X.env = (false, eval e X.env) :: starEach es X.env := by rfl)
    (hpl : ((backTo pos (starEach (e :: es) X.env)).any (·.1) || (backToKw pos (keywordEach kws X.env)).any (·.1.isNone)) = false := by rfl) :
    PE X (.Call (.Name x p) (e :: es) kws pos) (tCallGK sp gV W t tk) := by
  refine ⟨fun pins s σ H Q I h => ?_⟩
  refine wpAny_Call_Name_kw (ld_glob I hg hm ?_ hdb)
  refine PySem.W.callWith_KW (h₀ := X.base) I.ok.mod.kin hk hall (thn (ha.run pos pins s σ H _ I h) fun us s1 ⟨vs, H1, I1, r, q⟩ => ?_) hpl he
  refine thn (hkw.run pos pins s1 σ H1 _ I1 q) fun ws s2 ⟨zs, H2, I2, rz, q2⟩ => ⟨I2.kIn, ?_⟩
  rw [hks]
  have r2 := hb.rel r rz
  have hl : (g us ws).length = ps.length := by
    rw [← r2.length]
    exact F.len _ _ _ _ q2
  exact run_g F hr hgu tk' I2 (hb.to s2 us ws I2.kIn hl) r2 q2
end

/-! ### promises over data -/
inductive RR where
  | ok (r : RV)
  | ex (x : Exc)
inductive RM where
  | ok (r : RV) (d : D)
  | ex (x : Exc) (d : D)
structure ExtBut (p : Addr) (A : Hid) (H : Hp) (A' : Hid) (H' : Hp) : Prop where
  same : ∀ a o, H a = some o → a ≠ p → H' a = some o ∧ (A' a ↔ A a)
  tup : TupOk A' H'
  here : A' p
def PostP (G : Tb) (XR : XW) (A : Hid) (H : Hp) (Q : VK) (E : XK) : Option RR → Prop
  | none => False
  | some (.ok rv) => ∀ v A' H', Ext A H A' H' → RvOk G H A' H' rv v → Q v H'
  | some (.ex x) => ∀ c d A' H', Ext A H A' H' → XR G x c d A' H' → E c d H'
def PostM (G : Tb) (XR : XW) (p : Addr) (A : Hid) (H : Hp) (Q : VK) (E : XK) : Option RM → Prop
  | none => False
  | some (.ok rv d) => ∀ v A' H', ExtBut p A H A' H' → RepTop G A' H' d p → RvOk G H A' H' rv v → Q v H'
  | some (.ex x d) => ∀ c dx A' H', ExtBut p A H A' H' → RepTop G A' H' d p → XR G x c dx A' H' → E c dx H'
/-- a def that changes nothing | one that changes its first argument -/
def spP (G : Tb) (XR : XW) (n : Nat) (Φ : List D → Option RR) : Sp := fun vs H Q E => ∃ A ds, vs.length = n ∧ TupOk A H ∧ RepDs G A H ds vs ∧ PostP G XR A H Q E (Φ ds)
def spM (G : Tb) (XR : XW) (n : Nat) (Φ : D → List D → Option RM) : Sp := fun vs H Q E => ∃ A p vr d ds, vs = .ref p :: vr ∧ vs.length = n ∧ TupOk A H ∧ A p ∧ RepTop G A H d p ∧ RepDs G A H ds vr ∧ PostM G XR p A H Q E (Φ d ds)

/-! ### a def's run as a function of data -/
def startE (n : Nat) (ds : List D) : Env := ds.map (fun d => some (.dat d)) ++ List.replicate (n - ds.length) none
def startM (n : Nat) (d : D) (ds : List D) : Env := some (.own d) :: (ds.map (fun d => some (.dat d)) ++ List.replicate (n - (ds.length + 1)) none)
def retOf (e : Env) : Out → Option RV
  | .dat d => some (.dat d)
  | .fresh d => some (.fresh d)
  | .slot i => match e[i]? with
    | some (some (.dat d)) => some (.dat d)
    | some (some (.own d)) => some (.fresh d)
    | _ => none
def runP (g : SF) (n : Nat) (ds : List D) : Option RR := match g (startE n ds) with
  | some (.ok .next _) => some (.ok (.dat .non))
  | some (.ok (.ret o) e) => (retOf e o).map .ok
  | some (.ex x _) => some (.ex x)
  | _ => none
def own0 (e : Env) : Option D := match (e[0]? : Option (Option Cell)) with
  | some (some (.own d)) => some d
  | _ => none
def not0 : Out → Bool
  | .slot 0 => false
  | _ => true
def runM (g : SF) (n : Nat) (d : D) (ds : List D) : Option RM := match g (startM n d ds) with
  | some (.ok .next e) => (own0 e).map fun d' => .ok (.dat .non) d'
  | some (.ok (.ret o) e) => match own0 e, retOf e o with
    | some d', some rv => if not0 o = true then some (.ok rv d') else none
    | _, _ => none
  | some (.ex x e) => (own0 e).map fun d' => .ex x d'
  | _ => none

section
variable {G : Tb} {XR : XW}
theorem startE_get {n : Nat} {ds : List D} {i : Nat} {c : Cell} (h : (startE n ds)[i]? = some (some c)) : ∃ d, c = .dat d ∧ ds[i]? = some d := by
  unfold startE at h
  by_cases hi : i < ds.length
  · rw [List.getElem?_append_left (by simpa using hi), List.getElem?_map, List.getElem?_eq_getElem hi] at h
    cases h
    exact ⟨_, rfl, List.getElem?_eq_getElem hi⟩
  · rw [List.getElem?_append_right (by simpa using hi), List.getElem?_replicate] at h
    split at h <;> cases h
theorem start_get {N : List Str} {vs : List V} {i : Nat} {v : V} (h : vs[i]? = some v) : (L2.start N vs)[i]? = some (some v) := by
  unfold L2.start
  have hi := (List.getElem?_eq_some_iff.mp h).1
  rw [List.getElem?_append_left (by simpa using hi), List.getElem?_map, h]
  rfl
theorem rep_startE {A : Hid} {H : Hp} {N : List Str} {ds : List D} {vs : List V} (t : TupOk A H) (r : RepDs G A H ds vs) : Rep G A (L2.start N vs) H (startE N.length ds) ∧ ∀ q, ¬ Own (L2.start N vs) (startE N.length ds) q := by
  have no : ∀ (i : Nat) d, (startE N.length ds)[i]? ≠ some (some (Cell.own d)) := fun i d h => by
    obtain ⟨d', e, _⟩ := startE_get h
    cases e
  refine ⟨⟨?_, t, fun i c h => ?_, fun i j d e v h => absurd h (no i d)⟩, fun q ⟨i, d, h, _⟩ => no i d h⟩
  · unfold startE L2.start
    simp only [List.length_append, List.length_map, List.length_replicate, r.length]
  · obtain ⟨d, rfl, e⟩ := startE_get h
    obtain ⟨v, e1, k⟩ := r.get e
    exact ⟨v, start_get e1, k⟩
theorem startM_get {n : Nat} {d0 : D} {ds : List D} {i : Nat} {c : Cell} (h : (startM n d0 ds)[i]? = some (some c)) : (i = 0 ∧ c = .own d0) ∨ ∃ j d, i = j + 1 ∧ c = .dat d ∧ ds[j]? = some d := by
  cases i with
  | zero =>
    cases h
    exact .inl ⟨rfl, rfl⟩
  | succ j =>
    have h : (ds.map (fun d => some (Cell.dat d)) ++ List.replicate (n - (ds.length + 1)) none)[j]? = some (some c) := h
    refine .inr ⟨j, ?_⟩
    by_cases hi : j < ds.length
    · rw [List.getElem?_append_left (by simpa using hi), List.getElem?_map, List.getElem?_eq_getElem hi] at h
      cases h
      exact ⟨_, rfl, rfl, List.getElem?_eq_getElem hi⟩
    · rw [List.getElem?_append_right (by simpa using hi), List.getElem?_replicate] at h
      split at h <;> cases h
theorem rep_startM {A : Hid} {H : Hp} {N : List Str} {d : D} {ds : List D} {p : Addr} {vr : List V} (t : TupOk A H) (a : A p) (top : RepTop G A H d p) (r : RepDs G A H ds vr) :
    Rep G A (L2.start N (.ref p :: vr)) H (startM N.length d ds) ∧ ∀ q, Own (L2.start N (.ref p :: vr)) (startM N.length d ds) q → q = p := by
  have z : (L2.start N (.ref p :: vr))[0]? = some (some (.ref p)) := start_get rfl
  have own : ∀ (i : Nat) d', (startM N.length d ds)[i]? = some (some (Cell.own d')) → i = 0 := fun i d' h => by
    rcases startM_get h with ⟨h0, _⟩ | ⟨_, _, _, e, _⟩
    · exact h0
    · cases e
  refine ⟨⟨?_, t, fun i c h => ?_, fun i j d1 d2 v h1 h2 _ _ => (own i d1 h1).trans (own j d2 h2).symm⟩, fun q ⟨i, d', h1, h2⟩ => ?_⟩
  · unfold startM L2.start
    simp only [List.length_cons, List.length_append, List.length_map, List.length_replicate, r.length]
    omega
  · rcases startM_get h with ⟨rfl, rfl⟩ | ⟨j, d', rfl, rfl, e⟩
    · exact ⟨_, z, p, rfl, a, top⟩
    · obtain ⟨v, e1, k⟩ := r.get e
      exact ⟨v, start_get (i := j + 1) e1, k⟩
  · have hi := own i d' h1
    subst hi
    rw [z] at h2
    cases h2
    rfl

theorem ret_ok {A : Hid} {σ : L2.St} {H H0 : Hp} {e : Env} {o : Out} {v : V} {rv : RV} (R : Rep G A σ H e) (ow : ∀ i d p, o = .slot i → e[i]? = some (some (.own d)) → σ[i]? = some (some (.ref p)) → H0 p = none) (ok : OutOk G H0 A σ H e o v) (h : retOf e o = some rv) : RvOk G H0 A H rv v := by
  cases o with
  | dat d =>
    cases h
    exact ok
  | fresh d =>
    cases h
    obtain ⟨p, e1, e2, a, _, t⟩ := ok
    exact ⟨p, e1, e2, a, t⟩
  | slot i =>
    have ok : σ[i]? = some (some v) := ok
    unfold retOf at h
    simp only at h
    split at h
    · rename_i d e1
      cases h
      obtain ⟨u, e2, c⟩ := R.cell i _ e1
      rw [ok] at e2
      cases e2
      exact c
    · rename_i d e1
      cases h
      obtain ⟨u, e2, p, e3, a, t⟩ := R.cell i _ e1
      rw [ok] at e2
      cases e2
      subst e3
      exact ⟨p, rfl, ow i d p rfl e1 ok, a, t⟩
    · cases h

/-- the promise of a def that changes nothing, from its body -/
theorem runP_ok {N : List Str} {g : SF} {Φ : List D → Option RR} {A : Hid} {H : Hp} {ds : List D} {vs : List V} {Q : VK} {E : XK} (hΦ : ∀ ds r, Φ ds = some r → runP g N.length ds = some r) (t : TupOk A H) (r : RepDs G A H ds vs) (p : PostP G XR A H Q E (Φ ds)) :
    tEx G XR (fun c d _ H => E c d H) [] g { nx := fun _ H' => Q .non H', rt := Q } (L2.start N vs) H := by
  cases hr : Φ ds with
  | none =>
    rw [hr] at p
    exact p.elim
  | some rr =>
    rw [hr] at p
    have hg := hΦ ds rr hr
    obtain ⟨R, no⟩ := rep_startE (N := N) t r
    refine ⟨A, startE N.length ds, R, ?_⟩
    have ext : ∀ {σ' A' H' e}, Rep G A' σ' H' e → Fr (Own (L2.start N vs) (startE N.length ds)) A H (Own σ' e) A' H' → Ext A H A' H' := fun R' F => ⟨fun a o h => F.keep a o h (no a), R'.tup⟩
    unfold runP at hg
    cases hq : g (startE N.length ds) with
    | none =>
      rw [hq] at hg
      cases hg
    | some q =>
      rw [hq] at hg
      cases q with
      | ex x e =>
        cases hg
        exact fun σ' A' H' c d R' K F xr => p c d A' H' (ext R' F) xr
      | ok fl e =>
        cases fl with
        | next =>
          cases hg
          exact fun σ' A' H' R' K F => p .non A' H' (ext R' F) (by show RepD G A' H' _ _; unfold RepD; rfl)
        | brk => cases hg
        | cont => cases hg
        | ret o =>
          simp only at hg
          cases ho : retOf e o with
          | none =>
            rw [ho] at hg
            cases hg
          | some rv =>
            rw [ho] at hg
            cases hg
            refine fun σ' A' H' v R' K F ok => p v A' H' (ext R' F) (ret_ok R' (fun i d q _ h1 h2 => ?_) ok ho)
            rcases F.own q ⟨i, d, h1, h2⟩ with z | z
            · exact absurd z (no q)
            · exact z
theorem runM_ok {N : List Str} {g : SF} {Φ : D → List D → Option RM} {A : Hid} {H : Hp} {d : D} {ds : List D} {p : Addr} {vr : List V} {Q : VK} {E : XK} (hΦ : ∀ d ds r, Φ d ds = some r → runM g N.length d ds = some r) (t : TupOk A H) (a : A p) (top : RepTop G A H d p)
    (r : RepDs G A H ds vr) (po : PostM G XR p A H Q E (Φ d ds)) : tEx G XR (fun c d _ H => E c d H) [0] g { nx := fun _ H' => Q .non H', rt := Q } (L2.start N (.ref p :: vr)) H := by
  cases hr : Φ d ds with
  | none =>
    rw [hr] at po
    exact po.elim
  | some rr =>
    rw [hr] at po
    have hg := hΦ d ds rr hr
    obtain ⟨R, own⟩ := rep_startM (N := N) t a top r
    have z : (L2.start N (.ref p :: vr))[0]? = some (some (.ref p)) := start_get rfl
    refine ⟨A, startM N.length d ds, R, ?_⟩
    have fin : ∀ {σ' A' H' e d'}, Rep G A' σ' H' e → Keep [0] (L2.start N (.ref p :: vr)) σ' → Fr (Own (L2.start N (.ref p :: vr)) (startM N.length d ds)) A H (Own σ' e) A' H' → own0 e = some d' → ExtBut p A H A' H' ∧ RepTop G A' H' d' p ∧ σ'[0]? = some (some (.ref p)) := by
      intro σ' A' H' e d' R' K F ho
      unfold own0 at ho
      split at ho
      · rename_i d2 e1
        cases ho
        obtain ⟨v, e2, q, e3, a2, t2⟩ := R'.cell 0 _ e1
        have k0 : σ'[0]? = some (some (.ref p)) := (K 0 (by simp)).trans z
        rw [k0] at e2
        cases e2
        cases e3
        exact ⟨⟨fun b o h n => F.keep b o h fun w => n (own b w), R'.tup, a2⟩, t2, k0⟩
      · cases ho
    unfold runM at hg
    cases hq : g (startM N.length d ds) with
    | none =>
      rw [hq] at hg
      cases hg
    | some q =>
      rw [hq] at hg
      cases q with
      | ex x e =>
        simp only at hg
        cases ho : own0 e with
        | none =>
          rw [ho] at hg
          cases hg
        | some d' =>
          rw [ho] at hg
          cases hg
          intro σ' A' H' c dx R' K F xr
          obtain ⟨f1, f2, _⟩ := fin R' K F ho
          exact po c dx A' H' f1 f2 xr
      | ok fl e =>
        cases fl with
        | next =>
          simp only at hg
          cases ho : own0 e with
          | none =>
            rw [ho] at hg
            cases hg
          | some d' =>
            rw [ho] at hg
            cases hg
            intro σ' A' H' R' K F
            obtain ⟨f1, f2, _⟩ := fin R' K F ho
            exact po .non A' H' f1 f2 (by show RepD G A' H' _ _; unfold RepD; rfl)
        | brk => cases hg
        | cont => cases hg
        | ret o =>
          simp only at hg
          cases ho : own0 e with
          | none =>
            rw [ho] at hg
            cases hg
          | some d' =>
            cases hv : retOf e o with
            | none =>
              rw [ho, hv] at hg
              cases hg
            | some rv =>
              rw [ho, hv] at hg
              simp only at hg
              split at hg
              · rename_i hn
                cases hg
                intro σ' A' H' v R' K F ok
                obtain ⟨f1, f2, k0⟩ := fin R' K F ho
                refine po v A' H' f1 f2 (ret_ok R' (fun i d2 q ei h1 h2 => ?_) ok hv)
                rcases F.own q ⟨i, d2, h1, h2⟩ with w | w
                · exfalso
                  have hqp := own q w
                  subst hqp
                  unfold own0 at ho
                  split at ho
                  · rename_i d3 e3
                    have hi := R'.inj i 0 d2 d3 _ h1 e3 h2 k0
                    rw [ei, hi] at hn
                    exact Bool.noConfusion hn
                  · cases ho
                · exact w
              · cases hg
end

section
variable {P : Program} {w : World} {K : PySem.W.Frag} {mg : Str → Option Value} {base : Heap} {G : Tb} {XR : XW}
/-- THE RULE: a def that changes nothing -/
theorem fn_p {x qual : Str} {st : Stmt} {f : Addr} {fd : FuncData} {N ps : List Str} {k : Nat} {g : SF} {Φ : List D → Option RR} (F : Fun K x qual st f fd) (S : FnScope N ps (defScope st)) (hΦ : ∀ ds r, Φ ds = some r → runP g N.length ds = some r)
    (der : ∀ (cdv : Value) (A : Around) (outer : List PySem.Env) (s : Shared) (H : Hp) (E : XK), Room k (A.deeper (envOfC qual (defScope st) s.heap.objs.size f cdv)) → A.guards = some [] →
      PSs (cxOf (L2.CX P w) P w K mg base N qual (defScope st) f cdv A outer s H E) (defBody st) (tEx G XR (fun c d _ H => E c d H) [] g)) : FnG P w K mg base (k + 1) f fd ps (spP G XR ps.length Φ) := by
  refine fng_of F S (fun vs H Q E h => ?_) fun cdv A outer s H vs Q E hr hg h => ?_
  · obtain ⟨_, _, hl, _⟩ := h
    exact hl
  · obtain ⟨A', ds, hl, t, r, p⟩ := h
    exact ⟨_, der cdv A outer s H E hr hg, runP_ok hΦ t r p⟩
/-- .. one that changes its first argument -/
theorem fn_m {x qual : Str} {st : Stmt} {f : Addr} {fd : FuncData} {N ps : List Str} {k : Nat} {g : SF} {Φ : D → List D → Option RM} (F : Fun K x qual st f fd) (S : FnScope N ps (defScope st)) (hΦ : ∀ d ds r, Φ d ds = some r → runM g N.length d ds = some r)
    (der : ∀ (cdv : Value) (A : Around) (outer : List PySem.Env) (s : Shared) (H : Hp) (E : XK), Room k (A.deeper (envOfC qual (defScope st) s.heap.objs.size f cdv)) → A.guards = some [] →
      PSs (cxOf (L2.CX P w) P w K mg base N qual (defScope st) f cdv A outer s H E) (defBody st) (tEx G XR (fun c d _ H => E c d H) [0] g)) : FnG P w K mg base (k + 1) f fd ps (spM G XR ps.length Φ) := by
  refine fng_of F S (fun vs H Q E h => ?_) fun cdv A outer s H vs Q E hr hg h => ?_
  · obtain ⟨_, _, _, _, _, _, hl, _⟩ := h
    exact hl
  · obtain ⟨A', p, vr, d, ds, rfl, hl, t, a, top, r, po⟩ := h
    exact ⟨_, der cdv A outer s H E hr hg, runM_ok hΦ t a top r po⟩
end

/-! ### calls, as functions of data -/
section
variable {G : Tb} {XR : XW} {W : WX} {X : Cx}
def callK (r : Option RR) (e : Env) : Option (Rs Out) := match r with
  | some (.ok rv) => some (.ok rv.out e)
  | some (.ex x) => some (.ex x e)
  | none => none
def cCall (n : Nat) (Φ : List D → Option RR) (a : AF) : EF := fun env => bd (a env) fun ds e => if ds.length = n then callK (Φ ds) e else none
theorem call_post {Φr : Option RR} {σ : L2.St} {A A0 : Hid} {H H0 : Hp} {env0 e : Env} {Q : VK} (R : Rep G A σ H e) (F0 : Fr (Own σ env0) A0 H0 (Own σ e) A H) (p : Post G XR W σ A H e (fun o e A' H' => ∀ v, OutOk G H0 A' σ H' e o v → Q v H') (callK Φr e)) :
    PostP G XR A H Q (fun c d H' => W c d σ H') Φr := by
  cases Φr with
  | none => exact p
  | some r =>
    cases r with
    | ok rv => exact fun v A' H' ex ro => fin_rv R (fun q h => F0.none h) p ex ro
    | ex x => exact fun c d A' H' ex xr => p A' H' c d (ex.rep R) (ex.fr _) xr
theorem ev_call {k n : Nat} {f : Addr} {fd : FuncData} {ps : List Str} {Φ : List D → Option RR} {x : Str} {p pos : Pos} {e : Expr} {es : List Expr} {a : AF} (F : FnG X.prog X.w X.K X.mg X.base k f fd ps (spP G XR n Φ)) (hr : Room k X.A) (hgu : X.A.guards = some []) (tk : Takes X W) (hg : Gl X x) (hm : X.mg x = some (.ref f))
    (hk : PySem.W.keepIn X.K (.ref f) = true) (hb : Binds X.K fd ps []) (ha : PA X (e :: es) (tEvA G XR W a)) (hdb : (x == ("__debug__" : Str)) = false := by decide)
    (he : starEach (e :: es) X.env = (false, eval e X.env) :: starEach es X.env := by rfl) (hpl : (backTo pos (starEach es X.env)).any (·.1) = false := by rfl) : PE X (.Call (.Name x p) (e :: es) [] pos) (tEv G XR W (cCall n Φ a)) :=
  PE_imp (pe_callG F hr hgu tk hg hm hk hb ha hdb he hpl) fun σ H Q ⟨A, env, R, p⟩ => by
    refine ⟨A, env, R, ?_⟩
    unfold cCall at p
    cases hf : a env with
    | none =>
      rw [hf] at p
      exact p
    | some r =>
      rw [hf] at p
      cases r with
      | ex x e1 => exact p
      | ok ds e1 =>
        intro A1 H1 R1 F1 vs k1
        rw [bd_ok] at p
        split at p
        · rename_i hn
          exact ⟨A1, ds, by rw [← k1.length]; exact hn, R1.tup, k1, call_post R1 F1 (Post.imp F1 (fun _ _ _ _ _ q => q) p)⟩
        · exact p.elim
end
end Tk
/-! Tk5: calls that change their first argument, keywords, methods of own lists, item stores, comprehensions. -/
namespace Tk
open PySem PySem.Spec PyProof.Rows L2

section
variable {G : Tb} {XR : XW} {W : WX} {X : Cx} {fx : List Nat}

theorem ExtBut.stab {p : Addr} {A A' : Hid} {H H' : Hp} (x : ExtBut p A H A' H') (a : A p) : Stab A H A' H' := fun b o e n =>
  have q := x.same b o e fun z => n (z ▸ a)
  ⟨q.1, fun z => n (q.2.mp z)⟩
theorem Rep.setTop {σ : L2.St} {A A' : Hid} {H H' : Hp} {e : Env} {i : Nat} {d d' : D} {p : Addr} (R : Rep G A σ H e) (h1 : e[i]? = some (some (.own d))) (h2 : σ[i]? = some (some (.ref p))) (x : ExtBut p A H A' H') (t : RepTop G A' H' d' p) :
    Rep G A' σ H' (e.set i (some (.own d'))) ∧ Fr (Own σ e) A H (Own σ (e.set i (some (.own d')))) A' H' := by
  have hp : Own σ e p := ⟨i, d, h1, h2⟩
  have ha : A p := R.own_hid hp
  have st := x.stab ha
  have back : ∀ (j : Nat) (c : D), (e.set i (some (.own d')))[j]? = some (some (Cell.own c)) → ∃ c', e[j]? = some (some (Cell.own c')) := fun j c k => by
    by_cases hj : i = j
    · subst hj
      exact ⟨d, h1⟩
    · rw [get_set_ne hj] at k
      exact ⟨c, k⟩
  refine ⟨⟨by rw [List.length_set]; exact R.len, x.tup, fun j c k => ?_, fun j1 j2 d1 d2 w k1 k2 k3 k4 => ?_⟩, ⟨fun b o hb n => x.same b o hb fun z => n (z ▸ hp), fun q ⟨j, c, k1, k2⟩ => ?_, fun b o hb => ?_⟩⟩
  · by_cases hj : i = j
    · subst hj
      rw [get_set_self h1] at k
      cases k
      exact ⟨_, h2, p, rfl, x.here, t⟩
    · rw [get_set_ne hj] at k
      obtain ⟨u, e3, c3⟩ := R.cell j c k
      refine ⟨u, e3, ?_⟩
      cases c with
      | dat d0 => exact RepD.mono st R.tup d0 u c3
      | exc y => exact CellOk.exc_mono st R.tup c3
      | own d0 =>
        obtain ⟨q, e4, a4, t4⟩ := c3
        subst e4
        have hq : q ≠ p := fun z => hj (R.inj i j d d0 (.ref p) h1 k h2 (z ▸ e3))
        obtain ⟨o, e5, _⟩ := R.tup q a4
        exact ⟨q, rfl, (x.same q o e5 hq).2.mpr a4, t4.mono st R.tup fun o' z => (x.same q o' z hq).1⟩
  · obtain ⟨c1, m1⟩ := back _ _ k1
    obtain ⟨c2, m2⟩ := back _ _ k2
    exact R.inj j1 j2 c1 c2 w m1 m2 k3 k4
  · obtain ⟨c1, m1⟩ := back _ _ k1
    exact .inl ⟨j, c1, m1, k2⟩
  · by_cases hb' : b = p
    · subst hb'
      obtain ⟨o', e', _⟩ := t.some
      exact ⟨o', e'⟩
    · exact ⟨o, (x.same b o hb hb').1⟩

/-! ### f(own, ..) -/
def callMK (i : Nat) (r : Option RM) (e : Env) : Option (Rs Out) := match r with
  | some (.ok rv d) => some (.ok rv.out (e.set i (some (.own d))))
  | some (.ex x d) => some (.ex x (e.set i (some (.own d))))
  | none => none
def ownAt (e : Env) (i : Nat) : Option D := match (e[i]? : Option (Option Cell)) with
  | some (some (.own d)) => some d
  | _ => none
theorem ownAt_eq {e : Env} {i : Nat} {d : D} (h : ownAt e i = some d) : e[i]? = some (some (.own d)) := by
  unfold ownAt at h
  split at h
  · cases h
    assumption
  · cases h
def cCallM (n : Nat) (Φ : D → List D → Option RM) (i : Nat) (a : AF) : EF := fun env => match ownAt env i with
  | some _ => bd (a env) fun ds e => if ds.length + 1 = n then match ownAt e i with
    | some d => callMK i (Φ d ds) e
    | none => none else none
  | none => none
theorem rv_out_set {σ : L2.St} {A' : Hid} {H H' H0 : Hp} {e : Env} {i : Nat} {d d' : D} {rv : RV} {v : V} {A : Hid} (R : Rep G A σ H e) (h1 : e[i]? = some (some (.own d))) (k : ∀ p, H p = none → H0 p = none) (h : RvOk G H A' H' rv v) : OutOk G H0 A' σ H' (e.set i (some (.own d'))) rv.out v := by
  cases rv with
  | dat d => exact h
  | fresh d0 =>
    obtain ⟨q, e1, e2, a, t⟩ := h
    refine ⟨q, e1, k q e2, a, fun ⟨j, c, k1, k2⟩ => ?_, t⟩
    have : ∃ c', e[j]? = some (some (Cell.own c')) := by
      by_cases hj : i = j
      · subst hj
        exact ⟨d, h1⟩
      · rw [get_set_ne hj] at k1
        exact ⟨c, k1⟩
    obtain ⟨c', m⟩ := this
    obtain ⟨o, e3⟩ := R.own_some ⟨j, c', m, k2⟩
    rw [e2] at e3
    cases e3
theorem ev_callM {k n i : Nat} {f : Addr} {fd : FuncData} {ps : List Str} {Φ : D → List D → Option RM} {x : Str} {p pos : Pos} {e : Expr} {es : List Expr} {a : AF} (F : FnG X.prog X.w X.K X.mg X.base k f fd ps (spM G XR n Φ)) (hr : Room k X.A) (hgu : X.A.guards = some []) (tk : Takes X W) (hg : Gl X x) (hm : X.mg x = some (.ref f))
    (hk : PySem.W.keepIn X.K (.ref f) = true) (hb : Binds X.K fd ps []) (hv : PE X e (tVar i)) (ha : PA X es (tEvA G XR W a)) (hdb : (x == ("__debug__" : Str)) = false := by decide)
    (he : starEach (e :: es) X.env = (false, eval e X.env) :: starEach es X.env := by rfl) (hpl : (backTo pos (starEach es X.env)).any (·.1) = false := by rfl) : PE X (.Call (.Name x p) (e :: es) [] pos) (tEv G XR W (cCallM n Φ i a)) :=
  PE_imp (pe_callG F hr hgu tk hg hm hk hb (pa_cons hv ha he) hdb he hpl) fun σ H Q ⟨A, env, R, p⟩ => by
    unfold cCallM at p
    split at p
    · rename_i d0 h0
      obtain ⟨v, e0, q, e1, _⟩ := R.cell i _ (ownAt_eq h0)
      subst e1
      refine ⟨_, e0, (evA_seq R p).imp fun vs H1 ⟨A1, e1, ds, R1, k1, F1, p1⟩ => ?_⟩
      split at p1
      · rename_i hn
        split at p1
        · rename_i d h1
          have h1 := ownAt_eq h1
          obtain ⟨v, e2, q', e3, a3, t3⟩ := R1.cell i _ h1
          rw [e0] at e2
          cases e2
          cases e3
          refine ⟨A1, q, vs, d, ds, rfl, by show vs.length + 1 = n; rw [← k1.length]; exact hn, R1.tup, a3, t3, k1, ?_⟩
          cases hr : Φ d ds with
          | none =>
            rw [hr] at p1
            exact p1
          | some r =>
            rw [hr] at p1
            cases r with
            | ok rv d' =>
              intro v A' H' ex t' ro
              obtain ⟨R2, F2⟩ := R1.setTop h1 e0 ex t'
              exact p1 A' H' R2 F2 v (rv_out_set R1 h1 (fun q h => F1.none h) ro)
            | ex x d' =>
              intro c dx A' H' ex t' xr
              obtain ⟨R2, F2⟩ := R1.setTop h1 e0 ex t'
              exact p1 A' H' c dx R2 F2 xr
        · exact p1.elim
      · exact p1.elim
    · exact p.elim

/-! ### f(a new list, ..) -/
def cCallT (n : Nat) (Φ : D → List D → Option RM) (f : EF) (a : AF) : EF := fun env => bd (f env) fun o e => match o with
  | .fresh d => bd (a e) fun ds e2 => if ds.length + 1 = n then match Φ d ds with
    | some (.ok rv _) => some (.ok rv.out e2)
    | some (.ex x _) => some (.ex x e2)
    | none => none else none
  | _ => none
theorem Rep.butTop {σ : L2.St} {O0 A A' A0 : Hid} {H H' H0 : Hp} {e : Env} {p : Addr} (R : Rep G A σ H e) (F0 : Fr O0 A0 H0 (Own σ e) A H) (a : A p) (n : ¬ Own σ e p) (h0 : H0 p = none) (x : ExtBut p A H A' H') (hx : ∃ o, H' p = some o) : Rep G A' σ H' e ∧ Fr O0 A0 H0 (Own σ e) A' H' := by
  have st := x.stab a
  refine ⟨⟨R.len, x.tup, fun j c k => ?_, R.inj⟩, ⟨fun b o hb nb => ?_, F0.own, fun b o hb => ?_⟩⟩
  · obtain ⟨u, e3, c3⟩ := R.cell j c k
    refine ⟨u, e3, ?_⟩
    cases c with
    | dat d0 => exact RepD.mono st R.tup d0 u c3
    | exc y => exact CellOk.exc_mono st R.tup c3
    | own d0 =>
      obtain ⟨q, e4, a4, t4⟩ := c3
      subst e4
      have hq : q ≠ p := fun z => n ⟨j, d0, k, z ▸ e3⟩
      obtain ⟨o, e5, _⟩ := R.tup q a4
      exact ⟨q, rfl, (x.same q o e5 hq).2.mpr a4, t4.mono st R.tup fun o' z => (x.same q o' z hq).1⟩
  · obtain ⟨h1, i1⟩ := F0.keep b o hb nb
    have hbp : b ≠ p := fun z => by
      rw [z, h0] at hb
      cases hb
    obtain ⟨h2, i2⟩ := x.same b o h1 hbp
    exact ⟨h2, i2.trans i1⟩
  · obtain ⟨o1, h1⟩ := F0.dom b o hb
    have hbp : b ≠ p := fun z => by
      rw [z, h0] at hb
      cases hb
    exact ⟨o1, (x.same b o1 h1 hbp).1⟩
theorem evA_seq0 {β : Type} {f : AF} {k : List D → Env → Option (Rs β)} {KK : β → Env → Hid → Hp → Prop} {σ : L2.St} {A A0 : Hid} {H H0 : Hp} {env env0 : Env} (R : Rep G A σ H env) (F0 : Fr (Own σ env0) A0 H0 (Own σ env) A H) (p : Post G XR W σ A0 H0 env0 KK (bd (f env) k)) :
    tEvA G XR W f σ H (fun x H1 => ∃ A1 env1 d1, Rep G A1 σ H1 env1 ∧ RepDs G A1 H1 d1 x ∧ Fr (Own σ env) A H (Own σ env1) A1 H1 ∧ Post G XR W σ A0 H0 env0 KK (k d1 env1)) := by
  refine ⟨A, env, R, ?_⟩
  cases hf : f env with
  | none =>
    rw [hf] at p
    exact p
  | some r =>
    rw [hf] at p
    cases r with
    | ok o e1 => exact fun A1 H1 R1 F1 v ov => ⟨A1, e1, o, R1, ov, F1, p⟩
    | ex x e1 => exact fun A1 H1 c d R1 F1 xr => p A1 H1 c d R1 (F0.trans F1) xr
theorem ev_callT {k n : Nat} {f : Addr} {fd : FuncData} {ps : List Str} {Φ : D → List D → Option RM} {x : Str} {p pos : Pos} {e : Expr} {es : List Expr} {g : EF} {a : AF} (F : FnG X.prog X.w X.K X.mg X.base k f fd ps (spM G XR n Φ)) (hr : Room k X.A) (hgu : X.A.guards = some []) (tk : Takes X W) (hg : Gl X x) (hm : X.mg x = some (.ref f))
    (hk : PySem.W.keepIn X.K (.ref f) = true) (hb : Binds X.K fd ps []) (hv : PE X e (tEv G XR W g)) (ha : PA X es (tEvA G XR W a)) (hdb : (x == ("__debug__" : Str)) = false := by decide)
    (he : starEach (e :: es) X.env = (false, eval e X.env) :: starEach es X.env := by rfl) (hpl : (backTo pos (starEach es X.env)).any (·.1) = false := by rfl) : PE X (.Call (.Name x p) (e :: es) [] pos) (tEv G XR W (cCallT n Φ g a)) :=
  PE_imp (pe_callG F hr hgu tk hg hm hk hb (pa_cons hv ha he) hdb he hpl) fun σ H Q ⟨A, env, R, p⟩ => by
    refine ⟨A, env, R, ?_⟩
    unfold cCallT at p
    cases hf : g env with
    | none =>
      rw [hf] at p
      exact p
    | some r =>
      rw [hf] at p
      cases r with
      | ex x e1 => exact p
      | ok o e1 =>
        rw [bd_ok] at p
        intro A1 H1 R1 F1 v ov
        cases o with
        | dat d => exact p.elim
        | slot i => exact p.elim
        | fresh d =>
          simp only at p
          refine (evA_seq0 R1 F1 p).imp fun vs H2 ⟨A2, e2, ds, R2, k2, F2, p2⟩ => ?_
          obtain ⟨q, rfl, h0, a1, n1, t1⟩ := ov.mono R1 F2
          split at p2
          · rename_i hn
            refine ⟨A2, q, vs, d, ds, rfl, by show vs.length + 1 = n; rw [← k2.length]; exact hn, R2.tup, a1, t1, k2, ?_⟩
            have F02 := F1.trans F2
            cases hr : Φ d ds with
            | none =>
              rw [hr] at p2
              exact p2
            | some r =>
              rw [hr] at p2
              cases r with
              | ok rv d' =>
                intro v A' H' ex t' ro
                obtain ⟨o', e', _⟩ := t'.some
                obtain ⟨R3, F3⟩ := R2.butTop F02 a1 n1 h0 ex ⟨o', e'⟩
                exact p2 A' H' R3 F3 v (ro.out R2 fun z hz => F02.none hz)
              | ex x d' =>
                intro c dx A' H' ex t' xr
                obtain ⟨o', e', _⟩ := t'.some
                obtain ⟨R3, F3⟩ := R2.butTop F02 a1 n1 h0 ex ⟨o', e'⟩
                exact p2 A' H' c dx R3 F3 xr
          · exact p2.elim

/-! ### keywords -/
def pick {α : Type} (pm : List Nat) (l : List α) : List α := pm.filterMap fun i => l[i]?
theorem vals_pick {xs : List V} {us : List Value} (r : Vals xs us) : ∀ pm : List Nat, Vals (pick pm xs) (pick pm us)
  | [] => .nil
  | i :: pm => by
    unfold pick
    rw [List.filterMap_cons, List.filterMap_cons]
    cases h : xs[i]? with
    | none =>
      rw [r.none_of h]
      exact vals_pick r pm
    | some x =>
      obtain ⟨u, e, q⟩ := r.get h
      rw [e]
      exact .cons q (vals_pick r pm)
theorem repDs_pick {A : Hid} {H : Hp} {ds : List D} {vs : List V} (r : RepDs G A H ds vs) : ∀ pm : List Nat, RepDs G A H (pick pm ds) (pick pm vs)
  | [] => .nil
  | i :: pm => by
    unfold pick
    rw [List.filterMap_cons, List.filterMap_cons]
    cases h : ds[i]? with
    | none =>
      have h2 : vs[i]? = none := by
        rw [List.getElem?_eq_none_iff, ← r.length]
        exact List.getElem?_eq_none_iff.mp h
      rw [h2]
      exact repDs_pick r pm
    | some x =>
      obtain ⟨u, e, q⟩ := r.get h
      rw [e]
      exact .cons q (repDs_pick r pm)
theorem PK_imp {X : Cx} {e : List Keyword} {t t' : TA} (h : PK X e t) (i : ∀ σ H Q, t' σ H Q → t σ H Q) : PK X e t' := ⟨fun pos pins s σ H Q I q => h.run pos pins s σ H Q I (i σ H Q q)⟩
theorem ek_nil : PK X [] (tEvA G XR W aNil) := PK_imp pk_nil fun σ H Q ⟨A, env, R, p⟩ => p A H R (Fr.refl _ _ _) [] .nil
theorem ek_cons {e : Expr} {nm : Option Str} {kpos : Pos} {kws : List Keyword} {f : EF} {r : AF} (h : PE X e (tEv G XR W f)) (hr : PK X kws (tEvA G XR W r)) : PK X (⟨nm, e, kpos⟩ :: kws) (tEvA G XR W (aCons f r)) :=
  PK_imp (pk_cons (ev_use h) hr) fun σ H Q ⟨A, env, R, p⟩ => by
    refine (evU_seq R p).imp fun x H1 ⟨A1, e1, d1, R1, k1, F1, p1⟩ => ?_
    refine (evA_seq R1 p1).imp fun xs H2 ⟨A2, e2, ds, R2, k2, F2, p2⟩ => ?_
    exact p2 A2 H2 R2 (Fr.refl _ _ _) (x :: xs) (.cons (RepD.mono (F2.stab fun p q => R1.own_hid q) R1.tup _ _ k1) k2)
/-- f(e, .., k = v, ..): pm picks the parameters' values out of the positional ones, the keywords', the defaults -/
def cCallK (n np m : Nat) (Φ : List D → Option RR) (pm : List Nat) (dd : List D) (a kw : AF) : EF := fun env => bd (a env) fun ds e => bd (kw e) fun zs e2 =>
  if ds.length = np ∧ zs.length = m ∧ (pick pm (ds ++ zs ++ dd)).length = n then callK (Φ (pick pm (ds ++ zs ++ dd))) e2 else none
def KwB (K : PySem.W.Frag) (fd : FuncData) (ps ks : List Str) (np m : Nat) (pm : List Nat) (dv : List Value) : Prop :=
  ∀ (s : Shared) (us ws : List Value), K.In s.heap → us.length = np → ws.length = m → BindsTo s fd ⟨us, ks.zip ws⟩ (ps.zip (pick pm (us ++ ws ++ dv)))
section
variable {k : Nat} {f : Addr} {fd : FuncData} {ps ks : List Str} {sp : Sp} {x : Str} {p pos : Pos} {e : Expr} {es : List Expr} {kws : List Keyword} {t tk : TA} {np m n : Nat} {pm : List Nat} {dv : List Value} {dvs : List V} {dd : List D} {Φ : List D → Option RR} {a kw : AF}
theorem pe_callGW (F : FnG X.prog X.w X.K X.mg X.base k f fd ps sp) (hr : Room k X.A) (hgu : X.A.guards = some []) (tk' : Takes X W)
    (hg : Gl X x) (hm : X.mg x = some (.ref f)) (hk : PySem.W.keepIn X.K (.ref f) = true) (hb : KwB X.K fd ps ks np m pm dv) (hd : Vals dvs dv) (ha : PA X (e :: es) t) (hkw : PK X kws tk) (hall : (backToKw pos (keywordEach kws X.env)).all (·.1.isSome) = true := by rfl)
    (hks : (backToKw pos (keywordEach kws X.env)).filterMap (·.1) = ks := by rfl) (hdb : (x == ("__debug__" : Str)) = false := by decide) (he : starEach (e :: es) X.env = (false, eval e X.env) :: starEach es X.env := by rfl)
    (hpl : ((backTo pos (starEach (e :: es) X.env)).any (·.1) || (backToKw pos (keywordEach kws X.env)).any (·.1.isNone)) = false := by rfl) :
    PE X (.Call (.Name x p) (e :: es) kws pos) (fun σ H Q => t σ H fun vs H1 => tk σ H1 fun zs H2 => vs.length = np ∧ zs.length = m ∧ sp (pick pm (vs ++ zs ++ dvs)) H2 Q fun c d H' => W c d σ H') := by
  refine ⟨fun pins s σ H Q I h => ?_⟩
  refine wpAny_Call_Name_kw (ld_glob I hg hm ?_ hdb)
  refine PySem.W.callWith_KW (h₀ := X.base) (first := []) I.ok.mod.kin hk hall (thn (ha.run pos pins s σ H _ I h) fun us s1 ⟨vs, H1, I1, r, q⟩ => ?_) hpl he
  refine thn (hkw.run pos pins s1 σ H1 _ I1 q) fun ws s2 ⟨zs, H2, I2, rz, l1, l2, q2⟩ => ⟨I2.kIn, ?_⟩
  rw [hks]
  exact run_g F hr hgu tk' I2 (hb s2 us ws I2.kIn (r.length.symm.trans l1) (rz.length.symm.trans l2)) (vals_pick ((r.append rz).append hd) pm) q2
theorem pe_callGW0 (F : FnG X.prog X.w X.K X.mg X.base k f fd ps sp) (hr : Room k X.A) (hgu : X.A.guards = some []) (tk' : Takes X W)
    (hg : Gl X x) (hm : X.mg x = some (.ref f)) (hk : PySem.W.keepIn X.K (.ref f) = true) (hb : KwB X.K fd ps ks 0 m pm dv) (hd : Vals dvs dv) (hkw : PK X kws tk) (hall : (backToKw pos (keywordEach kws X.env)).all (·.1.isSome) = true := by rfl)
    (hks : (backToKw pos (keywordEach kws X.env)).filterMap (·.1) = ks := by rfl) (hdb : (x == ("__debug__" : Str)) = false := by decide)
    (hpl : ((backTo pos (starEach [] X.env)).any (·.1) || (backToKw pos (keywordEach kws X.env)).any (·.1.isNone)) = false := by rfl) :
    PE X (.Call (.Name x p) [] kws pos) (fun σ H Q => tk σ H fun zs H2 => zs.length = m ∧ sp (pick pm (zs ++ dvs)) H2 Q fun c d H' => W c d σ H') := by
  refine ⟨fun pins s σ H Q I h => ?_⟩
  refine wpAny_Call_Name_kw (ld_glob I hg hm ?_ hdb)
  refine PySem.W.callWith_KW0 (h₀ := X.base) (first := []) I.ok.mod.kin hk hall ?_ hpl
  refine thn (hkw.run pos pins s σ H _ I h) fun ws s2 ⟨zs, H2, I2, rz, l2, q2⟩ => ⟨I2.kIn, ?_⟩
  rw [hks]
  exact run_g F hr hgu tk' I2 (hb s2 [] ws I2.kIn rfl (rz.length.symm.trans l2)) (vals_pick (rz.append hd) pm) q2
theorem ev_callW (F : FnG X.prog X.w X.K X.mg X.base k f fd ps (spP G XR n Φ)) (hr : Room k X.A) (hgu : X.A.guards = some []) (tk' : Takes X W) (hg : Gl X x) (hm : X.mg x = some (.ref f)) (hk : PySem.W.keepIn X.K (.ref f) = true) (hb : KwB X.K fd ps ks np m pm dv) (hd : Vals dvs dv)
    (hdd : ∀ A H, RepDs G A H dd dvs) (ha : PA X (e :: es) (tEvA G XR W a)) (hkw : PK X kws (tEvA G XR W kw)) (hall : (backToKw pos (keywordEach kws X.env)).all (·.1.isSome) = true := by rfl)
    (hks : (backToKw pos (keywordEach kws X.env)).filterMap (·.1) = ks := by rfl) (hdb : (x == ("__debug__" : Str)) = false := by decide) (he : starEach (e :: es) X.env = (false, eval e X.env) :: starEach es X.env := by rfl)
    (hpl : ((backTo pos (starEach (e :: es) X.env)).any (·.1) || (backToKw pos (keywordEach kws X.env)).any (·.1.isNone)) = false := by rfl) :
    PE X (.Call (.Name x p) (e :: es) kws pos) (tEv G XR W (cCallK n np m Φ pm dd a kw)) :=
  PE_imp (pe_callGW F hr hgu tk' hg hm hk hb hd ha hkw hall hks hdb he hpl) fun σ H Q ⟨A, env, R, p⟩ => by
    refine (evA_seq0 R (Fr.refl _ _ _) p).imp fun vs H1 ⟨A1, e1, ds, R1, k1, F1, p1⟩ => ?_
    refine (evA_seq0 R1 F1 p1).imp fun zs H2 ⟨A2, e2, es, R2, k2, F2, p2⟩ => ?_
    split at p2
    · rename_i hn
      have k1' := RepDs.mono (F2.stab fun p q => R1.own_hid q) R1.tup _ _ k1
      have kk := repDs_pick ((k1'.append k2).append (hdd A2 H2)) pm
      exact ⟨by rw [← k1.length]; exact hn.1, by rw [← k2.length]; exact hn.2.1, A2, _, by rw [← kk.length]; exact hn.2.2, R2.tup, kk, call_post R2 (F1.trans F2) (Post.imp (F1.trans F2) (fun _ _ _ _ _ q => q) p2)⟩
    · exact p2.elim
theorem ev_callW0 (F : FnG X.prog X.w X.K X.mg X.base k f fd ps (spP G XR n Φ)) (hr : Room k X.A) (hgu : X.A.guards = some []) (tk' : Takes X W) (hg : Gl X x) (hm : X.mg x = some (.ref f)) (hk : PySem.W.keepIn X.K (.ref f) = true) (hb : KwB X.K fd ps ks 0 m pm dv) (hd : Vals dvs dv)
    (hdd : ∀ A H, RepDs G A H dd dvs) (hkw : PK X kws (tEvA G XR W kw)) (hall : (backToKw pos (keywordEach kws X.env)).all (·.1.isSome) = true := by rfl)
    (hks : (backToKw pos (keywordEach kws X.env)).filterMap (·.1) = ks := by rfl) (hdb : (x == ("__debug__" : Str)) = false := by decide)
    (hpl : ((backTo pos (starEach [] X.env)).any (·.1) || (backToKw pos (keywordEach kws X.env)).any (·.1.isNone)) = false := by rfl) :
    PE X (.Call (.Name x p) [] kws pos) (tEv G XR W (cCallK n 0 m Φ pm dd aNil kw)) :=
  PE_imp (pe_callGW0 F hr hgu tk' hg hm hk hb hd hkw hall hks hdb hpl) fun σ H Q ⟨A, env, R, p⟩ => by
    have p : Post G XR W σ A H env (fun o e A' H' => ∀ v, OutOk G H A' σ H' e o v → Q v H') (bd (kw env) fun zs e2 => if ([] : List D).length = 0 ∧ zs.length = m ∧ (pick pm ([] ++ zs ++ dd)).length = n then callK (Φ (pick pm ([] ++ zs ++ dd))) e2 else none) := p
    refine (evA_seq0 R (Fr.refl _ _ _) p).imp fun zs H2 ⟨A2, e2, es, R2, k2, F2, p2⟩ => ?_
    split at p2
    · rename_i hn
      have kk := repDs_pick (k2.append (hdd A2 H2)) pm
      rw [List.nil_append] at hn p2
      exact ⟨by rw [← k2.length]; exact hn.2.1, A2, _, by rw [← kk.length]; exact hn.2.2, R2.tup, kk, call_post R2 F2 (Post.imp F2 (fun _ _ _ _ _ q => q) p2)⟩
    · exact p2.elim
end

/-! ### methods of an own list -/
def methK (i : Nat) (r : Option (RV × D)) (e : Env) : Option (Rs Out) := match r with
  | some (rv, d) => some (.ok rv.out (e.set i (some (.own d))))
  | none => none
def cMeth (F : List D → List D → Option (D × List D)) (i : Nat) (a : AF) : EF := fun env => match ownAt env i with
  | some (.lst _) => bd (a env) fun ds e => match ownAt e i with
    | some (.lst l) => match F l ds with
      | some (r, l') => some (.ok (.dat r) (e.set i (some (.own (.lst l')))))
      | none => none
    | _ => none
  | _ => none
/-- what a method makes of a list and of its arguments -/
def MtOk (G : Tb) (r : V → List V → Hp → VK → Prop) (F : List D → List D → Option (D × List D)) : Prop := ∀ (l ds : List D) (d : D) (l' : List D) (A : Hid) (H : Hp) (p : Addr) (vs xs : List V) (Q : VK), F l ds = some (d, l') → TupOk A H → A p → H p = some (.lst vs) → RepDs G A H l vs → RepDs G A H ds xs →
  (∀ v ws, RepD G A H d v → RepDs G A H l' ws → Q v (upd H p (.lst ws))) → r (.ref p) xs H Q
theorem ExtBut.lst {A : Hid} {H : Hp} (t : TupOk A H) {p : Addr} (a : A p) (ws : List V) : ExtBut p A H A (upd H p (.lst ws)) := by
  refine ⟨fun b o h n => ⟨by rw [upd_ne n]; exact h, Iff.rfl⟩, fun q hq => ?_, a⟩
  by_cases e : q = p
  · subst e
    exact ⟨_, upd_same, (fun _ z => by cases z), (fun _ _ z => by cases z)⟩
  · obtain ⟨o, e1, r⟩ := t q hq
    exact ⟨o, by rw [upd_ne e]; exact e1, r⟩
theorem meth_post {r : V → List V → Hp → VK → Prop} {F : List D → List D → Option (D × List D)} (hF : MtOk G r F) {i : Nat} {σ : L2.St} {A A0 : Hid} {H H0 : Hp} {e env0 : Env} {ds : List D} {xs : List V} {p : Addr} {Q : VK} (R : Rep G A σ H e) (F0 : Fr (Own σ env0) A0 H0 (Own σ e) A H) (es : σ[i]? = some (some (.ref p))) (k : RepDs G A H ds xs)
    (po : Post G XR W σ A0 H0 env0 (fun o e A' H' => ∀ v, OutOk G H0 A' σ H' e o v → Q v H') (match ownAt e i with
    | some (.lst l) => match F l ds with
      | some (r, l') => some (.ok (.dat r) (e.set i (some (.own (.lst l')))))
      | none => none
    | _ => none)) : r (.ref p) xs H Q := by
  split at po
  · rename_i l h1
    have h1 := ownAt_eq h1
    obtain ⟨v, e2, q', e3, a3, vs, hp, rl⟩ := R.cell i _ h1
    rw [es] at e2
    cases e2
    cases e3
    split at po
    · rename_i d l' hf
      refine hF l ds d l' A H p vs xs Q hf R.tup a3 hp rl k fun v ws rd rw' => ?_
      have ex := ExtBut.lst R.tup a3 ws
      have st := ex.stab a3
      obtain ⟨R2, F2⟩ := R.setTop h1 es ex (d' := .lst l') ⟨ws, upd_same, RepDs.mono st R.tup _ _ rw'⟩
      exact po A _ R2 (F0.trans F2) v (RepD.mono st R.tup _ _ rd)
    · exact po.elim
  · exact po.elim
section
variable {id : String} {name : Str} {r : V → List V → Hp → VK → Prop} {F : List D → List D → Option (D × List D)} {o e : Expr} {es : List Expr} {apos cpos : Pos} {i : Nat} {a : AF}
theorem ev_meth (slot : Slot "list" name id) (hty : typeOf (.builtin id) = pure (.type "method_descriptor")) (hm : MtR X id r) (hF : MtOk G r F) (hk : X.K = G.K) (ho : PE X o (tVar i)) (ha : PA X (e :: es) (tEvA G XR W a)) (hbase : attributeBase o name X.env (eval o X.env) = eval o X.env := by rfl)
    (hfew : ((backTo cpos (starEach (e :: es) X.env)).all (fun x => !x.1) && (backToKw cpos (keywordEach [] X.env)).all (fun x => x.1.isSome)
      && decide ((e :: es).length + ([] : List Keyword).length + (if ([] : List Keyword).isEmpty then 0 else 1) < 30)) = true := by rfl)
    (hline : (apos.endLine == cpos.line) = true := by rfl) (hs : starEach (e :: es) X.env = (false, eval e X.env) :: starEach es X.env := by rfl) (hplain : (backTo cpos (starEach es X.env)).any (·.1) = false := by rfl) :
    PE X (.Call (.Attribute o name apos) (e :: es) [] cpos) (tEv G XR W (cMeth F i a)) := PE_imp (pe_bm PySem.F.plainAttrs_list slot hty hm ho ha hbase hfew hline hs hplain) fun σ H Q ⟨A, env, R, p⟩ => by
  unfold cMeth at p
  split at p
  · rename_i l0 h0
    obtain ⟨v, e0, q, e1, _, vs, hp, _⟩ := R.cell i _ (ownAt_eq h0)
    subst e1
    refine ⟨_, e0, .inl ⟨rfl, _, SqL.of hp⟩, (evA_seq0 R (Fr.refl _ _ _) p).imp fun xs H1 ⟨A1, e1, ds, R1, k1, F1, p1⟩ => ?_⟩
    exact meth_post hF R1 F1 e0 k1 p1
  · exact p.elim
theorem ev_meth0 (slot : Slot "list" name id) (hty : typeOf (.builtin id) = pure (.type "method_descriptor")) (hm : MtR X id r) (hF : MtOk G r F) (hk : X.K = G.K) (ho : PE X o (tVar i)) (hbase : attributeBase o name X.env (eval o X.env) = eval o X.env := by rfl)
    (hline : (apos.endLine == cpos.line) = true := by rfl) : PE X (.Call (.Attribute o name apos) [] [] cpos) (tEv G XR W (cMeth F i aNil)) := PE_imp (pe_bm0 PySem.F.plainAttrs_list slot hty hm ho hbase hline) fun σ H Q ⟨A, env, R, p⟩ => by
  unfold cMeth at p
  split at p
  · rename_i l0 h0
    obtain ⟨v, e0, q, e1, _, vs, hp, _⟩ := R.cell i _ (ownAt_eq h0)
    subst e1
    exact ⟨_, e0, .inl ⟨rfl, _, SqL.of hp⟩, meth_post hF R (Fr.refl _ _ _) e0 .nil p⟩
  · exact p.elim
end
def fAppend (l ds : List D) : Option (D × List D) := match ds with
  | [d] => if szOk l.length = true then some (.non, l ++ [d]) else none
  | _ => none
theorem szOk.lt {n : Nat} (h : szOk n = true) : n < sizeLine := Nat.lt_of_le_of_lt (of_decide_eq_true h) (by decide)
theorem non_rep {A : Hid} {H : Hp} : RepD G A H .non .non := by
  unfold RepD
  rfl
theorem mo_append : MtOk G rAppend fAppend := fun l ds d l' A H p vs xs Q hf t a hp rl k q => by
  unfold fAppend at hf
  split at hf
  · split at hf
    · rename_i hz
      cases hf
      obtain ⟨v, r, rfl, h1, h2⟩ := k.inv
      obtain rfl := h2.inv0
      exact ⟨p, vs, v, rfl, rfl, hp, by rw [← rl.length]; exact szOk.lt hz, q _ _ non_rep (rl.append (.cons h1 .nil))⟩
    · cases hf
  · cases hf
def fPop (l ds : List D) : Option (D × List D) := match ds with
  | [] => match l[l.length - 1]? with
    | some d => some (d, l.dropLast)
    | none => none
  | _ => none
theorem RepDs.dropLast {A : Hid} {H : Hp} {ds : List D} {vs : List V} (h : RepDs G A H ds vs) : RepDs G A H ds.dropLast vs.dropLast := by
  rw [List.dropLast_eq_take, List.dropLast_eq_take, ← h.length]
  exact h.take _
theorem mo_pop : MtOk G rPop fPop := fun l ds d l' A H p vs xs Q hf t a hp rl k q => by
  unfold fPop at hf
  split at hf
  · split at hf
    · rename_i d0 e0
      cases hf
      obtain rfl := k.inv0
      obtain ⟨v, e1, rv⟩ := rl.get e0
      rw [rl.length] at e1
      exact ⟨p, vs, v, rfl, rfl, hp, e1, q _ _ rv rl.dropLast⟩
    · cases hf
  · cases hf
def fPopAt (l ds : List D) : Option (D × List D) := match ds with
  | [.int i] => if small62 i = true then match ixN l.length i with
    | some k => match l[k]? with
      | some d => some (d, l.eraseIdx k)
      | none => none
    | none => none else none
  | _ => none
theorem mo_popAt : MtOk G rPopAt fPopAt := fun l ds d l' A H p vs xs Q hf t a hp rl k q => by
  unfold fPopAt at hf
  split at hf
  · rename_i i
    split at hf
    · rename_i hz
      split at hf
      · rename_i j hj
        split at hf
        · rename_i d0 e0
          cases hf
          obtain ⟨x, r, rfl, h1, h2⟩ := k.inv
          obtain rfl := h2.inv0
          obtain ⟨v, e1, rv⟩ := rl.get e0
          have z := small62.ok hz
          rw [rl.length] at hj
          exact ⟨p, vs, i, j, v, rfl, by rw [int_of h1], hp, by omega, by omega, (ixN_seq hj).1, e1, q _ _ rv (rl.eraseIdx j)⟩
        · cases hf
      · cases hf
    · cases hf
  · cases hf
def fExtend (l ds : List D) : Option (D × List D) := match ds with
  | [.lst m] => if szOk (l.length + m.length) = true then some (.non, l ++ m) else none
  | _ => none
end
end Tk
/-! Tk6: list comprehensions, item stores. -/
namespace Tk
open PySem PySem.Spec PyProof.Rows L2

theorem bd_eq_ok {α β : Type} {r : Option (Rs α)} {k : α → Env → Option (Rs β)} {b : β} {e : Env} (h : bd r k = some (.ok b e)) : ∃ a e', r = some (.ok a e') ∧ k a e' = some (.ok b e) := by
  cases r with
  | none => cases h
  | some q =>
    cases q with
    | ok a e' => exact ⟨a, e', rfl, h⟩
    | ex x e' => cases h

def wipeE (e : Env) : List Nat → Env
  | [] => e
  | v :: vs => (wipeE e vs).set v none
def unwipe (e0 e : Env) : List Nat → Env
  | [] => e
  | v :: vs => (unwipe e0 e vs).set v (match (e0[v]? : Option (Option Cell)) with
    | some c => c
    | none => none)
theorem wipeE_length (e : Env) : ∀ vs, (wipeE e vs).length = e.length
  | [] => rfl
  | v :: vs => by
    unfold wipeE
    rw [List.length_set, wipeE_length e vs]
theorem unwipe_length (e0 e : Env) : ∀ vs, (unwipe e0 e vs).length = e.length
  | [] => rfl
  | v :: vs => by
    unfold unwipe
    rw [List.length_set, unwipe_length e0 e vs]
theorem wipeE_get {e : Env} {j : Nat} {c : Cell} : ∀ {vs : List Nat}, (wipeE e vs)[j]? = some (some c) → j ∉ vs ∧ e[j]? = some (some c)
  | [], h => ⟨by simp, h⟩
  | v :: vs, h => by
    unfold wipeE at h
    by_cases hj : v = j
    · subst hj
      by_cases hl : v < (wipeE e vs).length
      · rw [List.getElem?_set_self hl] at h
        cases h
      · rw [List.getElem?_eq_none (by rw [List.length_set]; exact Nat.le_of_not_lt hl)] at h
        cases h
    · rw [List.getElem?_set_ne hj] at h
      obtain ⟨n, q⟩ := wipeE_get h
      exact ⟨by simp [Ne.symm hj, n], q⟩
theorem wipe_get {σ : L2.St} {j : Nat} : ∀ {vs : List Nat}, j ∉ vs → (wipe σ vs)[j]? = σ[j]?
  | [], _ => rfl
  | v :: vs, h => by
    unfold wipe
    rw [List.getElem?_set_ne (fun z => h (by simp [z]))]
    exact wipe_get fun z => h (List.mem_cons_of_mem _ z)
theorem wipe_in {σ : L2.St} {j : Nat} {v : V} : ∀ {vs : List Nat}, (wipe σ vs)[j]? = some (some v) → j ∉ vs ∧ σ[j]? = some (some v) := fun {vs} h => by
  obtain ⟨a, b⟩ := wipe_some h
  exact ⟨b, a⟩
theorem unwipe_in {e0 e : Env} {j : Nat} (hl : e.length = e0.length) : ∀ {vs : List Nat}, j ∈ vs → (unwipe e0 e vs)[j]? = e0[j]?
  | [], h => by cases h
  | v :: vs, h => by
    unfold unwipe
    by_cases hj : v = j
    · subst hj
      by_cases hv : v < e0.length
      · rw [List.getElem?_set_self (by rw [unwipe_length, hl]; exact hv), List.getElem?_eq_getElem hv]
      · rw [List.getElem?_eq_none (by rw [List.length_set, unwipe_length, hl]; exact Nat.le_of_not_lt hv), List.getElem?_eq_none (Nat.le_of_not_lt hv)]
    · rw [List.getElem?_set_ne hj]
      rcases List.mem_cons.mp h with z | z
      · exact absurd z.symm hj
      · exact unwipe_in hl z
theorem unwipe_out {e0 e : Env} {j : Nat} : ∀ {vs : List Nat}, j ∉ vs → (unwipe e0 e vs)[j]? = e[j]?
  | [], _ => rfl
  | v :: vs, h => by
    unfold unwipe
    rw [List.getElem?_set_ne (fun z => h (by simp [z]))]
    exact unwipe_out fun z => h (List.mem_cons_of_mem _ z)

def compG (vs : List Nat) (g : GF) (t : TF) (f : UF) : List D → List D → Env → Option (Rs (List D))
  | [], acc, env => some (.ok acc env)
  | d :: ds, acc, env => bd (g d env) fun _ e1 => if e1.length = env.length then bd (t e1) fun b e2 => if b = true then bd (f e2) fun y e3 =>
      if szOk acc.length = true then compG vs g t f ds (acc ++ [y]) (wipeE e3 vs) else none else compG vs g t f ds acc (wipeE e2 vs) else none
def lcK (vs : List Nat) (g : GF) (t : TF) (f : UF) (ds : List D) (e : Env) : Option (Rs Out) := match compG vs g t f ds [] (wipeE e vs) with
  | some (.ok acc e2) => if e2.length = e.length then some (.ok (.fresh (.lst acc)) (unwipe e e2 vs)) else none
  | _ => none
def cLc (it : AF) (vs : List Nat) (g : GF) (t : TF) (f : UF) : EF := fun env => bd (it env) (lcK vs g t f)

section
variable {G : Tb} {XR : XW} {W : WX} {X : Cx}

theorem Rep.wipe {σ : L2.St} {A : Hid} {H : Hp} {e : Env} (R : Rep G A σ H e) (vs : List Nat) : Rep G A (L2.wipe σ vs) H (wipeE e vs) ∧ ∀ q, Own (L2.wipe σ vs) (wipeE e vs) q → Own σ e q := by
  refine ⟨⟨by rw [wipeE_length, wipe_length]; exact R.len, R.tup, fun j c k => ?_, fun i j d1 d2 v k1 k2 k3 k4 => ?_⟩, fun q ⟨j, d, k1, k2⟩ => ?_⟩
  · obtain ⟨n, q⟩ := wipeE_get k
    rw [wipe_get n]
    exact R.cell j c q
  · exact R.inj i j d1 d2 v (wipeE_get k1).2 (wipeE_get k2).2 (wipe_in k3).2 (wipe_in k4).2
  · exact ⟨j, d, (wipeE_get k1).2, (wipe_in k2).2⟩

theorem st_ext {σ σ' : L2.St} (hl : σ.length = σ'.length) (h : ∀ i, i < σ.length → σ[i]? = σ'[i]?) : σ = σ' := by
  apply List.ext_getElem? 
  intro i
  by_cases hi : i < σ.length
  · exact h i hi
  · rw [List.getElem?_eq_none (Nat.le_of_not_lt hi), List.getElem?_eq_none (by omega)]
theorem wipe_at {σ : L2.St} {j : Nat} : ∀ {vs : List Nat}, j ∈ vs → j < σ.length → (wipe σ vs)[j]? = some none
  | [], h, _ => by cases h
  | v :: vs, h, hl => by
    unfold L2.wipe
    by_cases hj : v = j
    · subst hj
      rw [List.getElem?_set_self (by rw [wipe_length]; exact hl)]
    · rw [List.getElem?_set_ne hj]
      rcases List.mem_cons.mp h with z | z
      · exact absurd z.symm hj
      · exact wipe_at z hl
theorem wipe_back {σ σ' : L2.St} {vs fx : List Nat} (hl : σ'.length = σ.length) (hf : ∀ j, j < σ.length → j ∉ vs → j ∈ fx) (k : Keep fx (wipe σ vs) σ') : wipe σ' vs = wipe σ vs := by
  refine st_ext (by rw [wipe_length, wipe_length, hl]) fun i hi => ?_
  rw [wipe_length] at hi
  by_cases hv : i ∈ vs
  · rw [wipe_at hv hi, wipe_at hv (by omega)]
  · rw [wipe_get hv, k i (hf i (by omega) hv)]

/-- back from the block -/
theorem unwipe_ok {σ : L2.St} {vs : List Nat} {A1 A : Hid} {H1 H : Hp} {e0 e : Env} (R1 : Rep G A1 σ H1 e0) (R : Rep G A (L2.wipe σ vs) H e) (hl : e.length = e0.length) (F : Fr (Own (L2.wipe σ vs) (wipeE e0 vs)) A1 H1 (Own (L2.wipe σ vs) e) A H) :
    Rep G A σ H (unwipe e0 e vs) ∧ Fr (Own σ e0) A1 H1 (Own σ (unwipe e0 e vs)) A H := by
  have sub : ∀ q, Own (L2.wipe σ vs) (wipeE e0 vs) q → Own σ e0 q := (R1.wipe vs).2
  have st : Stab A1 H1 A H := F.stab fun p q => R1.own_hid (sub p q)
  have inE : ∀ (j : Nat) (c : Cell), (unwipe e0 e vs)[j]? = some (some c) → (j ∈ vs ∧ e0[j]? = some (some c)) ∨ (j ∉ vs ∧ e[j]? = some (some c)) := fun j c k => by
    by_cases hj : j ∈ vs
    · rw [unwipe_in hl hj] at k
      exact .inl ⟨hj, k⟩
    · rw [unwipe_out hj] at k
      exact .inr ⟨hj, k⟩
  -- an own thing of a wiped slot is no own thing of the block
  have no : ∀ (j : Nat) (d : D) (p : Addr), j ∈ vs → e0[j]? = some (some (.own d)) → σ[j]? = some (some (.ref p)) → ¬ Own (L2.wipe σ vs) (wipeE e0 vs) p := fun j d p hj h1 h2 ⟨i, d', k1, k2⟩ => by
    obtain ⟨n1, m1⟩ := wipeE_get k1
    obtain ⟨_, m2⟩ := wipe_in k2
    exact n1 (R1.inj j i d d' _ h1 m1 h2 m2 ▸ hj)
  refine ⟨⟨?_, R.tup, fun j c k => ?_, fun i j d1 d2 v k1 k2 k3 k4 => ?_⟩, ⟨fun a o h n => F.keep a o h fun z => n (sub a z), fun p ⟨j, d, k1, k2⟩ => ?_, F.dom⟩⟩
  · rw [unwipe_length, hl]
    exact R1.len
  · rcases inE j c k with ⟨hj, q⟩ | ⟨hj, q⟩
    · obtain ⟨v, e1, c1⟩ := R1.cell j c q
      refine ⟨v, e1, ?_⟩
      cases c with
      | dat d => exact RepD.mono st R1.tup d v c1
      | exc y => exact CellOk.exc_mono st R1.tup c1
      | own d =>
        obtain ⟨p, rfl, a1, t1⟩ := c1
        obtain ⟨o, eo, _⟩ := R1.tup p a1
        have nn := no j d p hj q e1
        exact ⟨p, rfl, (F.keep p o eo nn).2.mpr a1, t1.mono st R1.tup fun o' z => (F.keep p o' z nn).1⟩
    · obtain ⟨v, e1, c1⟩ := R.cell j c q
      rw [wipe_get hj] at e1
      exact ⟨v, e1, c1⟩
  · have mix : ∀ (i j : Nat) (d1 d2 : D) (v : V), i ∈ vs → e0[i]? = some (some (.own d1)) → j ∉ vs → e[j]? = some (some (.own d2)) → σ[i]? = some (some v) → σ[j]? = some (some v) → False := fun i j d1 d2 v hi h1 hj h2 h3 h4 => by
      obtain ⟨v', e1, p, rfl, a1, t1⟩ := R1.cell i _ h1
      rw [h3] at e1
      cases e1
      rcases F.own p ⟨j, d2, h2, by rw [wipe_get hj]; exact h4⟩ with z | z
      · exact no i d1 p hi h1 h3 z
      · obtain ⟨o, eo, _⟩ := R1.tup p a1
        rw [eo] at z
        cases z
    rcases inE i _ k1 with ⟨hi, q1⟩ | ⟨hi, q1⟩ <;> rcases inE j _ k2 with ⟨hj, q2⟩ | ⟨hj, q2⟩
    · exact R1.inj i j d1 d2 v q1 q2 k3 k4
    · exact (mix i j d1 d2 v hi q1 hj q2 k3 k4).elim
    · exact (mix j i d2 d1 v hj q2 hi q1 k4 k3).elim
    · exact R.inj i j d1 d2 v q1 q2 (by rw [wipe_get hi]; exact k3) (by rw [wipe_get hj]; exact k4)
  · rcases inE j _ k1 with ⟨hj, q1⟩ | ⟨hj, q1⟩
    · exact .inl ⟨j, d, q1, k2⟩
    · rcases F.own p ⟨j, d, q1, by rw [wipe_get hj]; exact k2⟩ with z | z
      · exact .inl (sub p z)
      · exact .inr z

abbrev W0 : WX := fun _ _ _ _ => False
theorem lc_ok {vs fx : List Nat} {g : GF} {t : TF} {f : UF} {σ : L2.St} {Q : VK} {J : It} {A1 : Hid} {H1 : Hp} {e1 : Env} {ds : List D} {acc : List D} {e2 : Env} (hfx : ∀ j, j < σ.length → j ∉ vs → j ∈ fx) (R1 : Rep G A1 σ H1 e1) (ij : ItOk G J A1 H1 ds) (hc : compG vs g t f ds [] (wipeE e1 vs) = some (.ok acc e2)) (hl : e2.length = e1.length)
    (q : ∀ A' H' v, Rep G A' σ H' (unwipe e1 e2 vs) → Fr (Own σ e1) A1 H1 (Own σ (unwipe e1 e2 vs)) A' H' → OutOk G H1 A' σ H' (unwipe e1 e2 vs) (.fresh (.lst acc)) v → Q v H') (D : Addr) (hD : H1 D = none) :
    ∃ W : Nat → Nat → Hp → Prop, (∃ m, W 0 m (upd H1 D (.lst []))) ∧ ∀ i m H, W i m H → (J.stop i H ∧ Q (.ref D) H) ∨ (J.go i H ∧ ∃ Nx : Hp → Prop, (∀ H', Nx H' → ∃ m', m' < m ∧ W (i + 1) m' H') ∧
      ∀ x H', J.yld i H x H' → tEvG G XR W0 fx g x (L2.wipe σ vs) H' fun σ2 H2 => L2.wipe σ2 vs = L2.wipe σ vs ∧ tEvT G XR W0 t σ2 H2 fun b H3 =>
        if b = true then tEvU G XR W0 f σ2 H3 fun y H4 => ∃ acc, H4 D = some (.lst acc) ∧ acc.length < sizeLine ∧ Nx (upd H4 D (.lst (acc ++ [y]))) else Nx H3) := by
  obtain ⟨Rw, subw⟩ := R1.wipe vs
  let St := fun (H : Hp) (rest : List Tk.D) => ∃ (A : Hid) (env : Env) (a : List Tk.D) (av : List V), Rep G A (L2.wipe σ vs) H env ∧ Stab A1 H1 A H ∧ Fr (Own (L2.wipe σ vs) (wipeE e1 vs)) A1 H1 (Own (L2.wipe σ vs) env) A H ∧ A D ∧ H D = some (.lst av) ∧ RepDs G A H a av ∧ ¬ Own (L2.wipe σ vs) env D ∧ env.length = e1.length ∧
    compG vs g t f rest a env = some (.ok acc e2)
  refine ⟨fun i m H => i ≤ ds.length ∧ m = ds.length - i ∧ St H (ds.drop i), ⟨_, Nat.zero_le _, rfl, ?_⟩, ?_⟩
  · have ex := Ext.newLst Rw.tup hD []
    refine ⟨_, wipeE e1 vs, [], [], ex.rep Rw, ex.stab, ex.fr _, .inr rfl, upd_same, .nil, fun z => ?_, wipeE_length _ _, hc⟩
    obtain ⟨o, eo⟩ := Rw.own_some z
    rw [hD] at eo
    cases eo
  · rintro i m H ⟨hi, rfl, A, env, a, av, R, s, F, aD, hDv, ra, nD, le, hcomp⟩
    obtain ⟨turn, stop⟩ := ij A H R.tup s
    by_cases hlt : i < ds.length
    · have ed : ds.drop i = ds[i] :: ds.drop (i + 1) := List.drop_eq_getElem_cons hlt
      rw [ed] at hcomp
      obtain ⟨go, yl⟩ := turn i ds[i] (List.getElem?_eq_getElem hlt)
      refine .inr ⟨go, fun H' => St H' (ds.drop (i + 1)), fun H' h => ⟨ds.length - (i + 1), by omega, hlt, rfl, h⟩, fun x H' y => ?_⟩
      obtain ⟨ex, rd⟩ := yl x H' y
      have R' := ex.rep R
      have F' : Fr (Own (L2.wipe σ vs) (wipeE e1 vs)) A1 H1 (Own (L2.wipe σ vs) env) A H' := F.trans (ex.fr _)
      have hD' := (ex.same D _ hDv).1
      have ra' := RepDs.mono ex.stab R.tup _ _ ra
      unfold compG at hcomp
      obtain ⟨_, eg, hg, hcomp⟩ := bd_eq_ok hcomp
      split at hcomp
      · rename_i hlen
        obtain ⟨b, et, ht, hcomp⟩ := bd_eq_ok hcomp
        refine ⟨A, env, ds[i], R', rd, ?_⟩
        rw [hg]
        intro σ2 A2 H2 R2 K2 F2
        have hs2 : σ2.length = σ.length := by
          rw [← R2.len, hlen, le, R1.len]
        have hw : L2.wipe σ2 vs = L2.wipe σ vs := wipe_back hs2 hfx K2
        refine ⟨hw, A2, eg, R2, ?_⟩
        rw [ht]
        intro A3 H3 R3 F3
        -- the new list through the block
        have F23 := F2.trans F3
        have k3 := F23.keep D _ hD' nD
        have n3 : ¬ Own σ2 et D := fun z => by
          rcases F23.own D z with w | w
          · exact nD w
          · rw [hD'] at w
            cases w
        have st3 : Stab A H' A3 H3 := F23.stab fun p q => R'.own_hid q
        have ra3 := RepDs.mono st3 R'.tup _ _ ra'
        have fin : ∀ {A4 : Hid} {H4 : Hp} {e4 : Env} {a4 : List Tk.D} {av4 : List V}, Rep G A4 σ2 H4 e4 → Fr (Own (L2.wipe σ vs) (wipeE e1 vs)) A1 H1 (Own σ2 e4) A4 H4 → A4 D → H4 D = some (.lst av4) → RepDs G A4 H4 a4 av4 → ¬ Own σ2 e4 D → e4.length = e1.length →
            compG vs g t f (ds.drop (i + 1)) a4 (wipeE e4 vs) = some (.ok acc e2) → St H4 (ds.drop (i + 1)) := by
          intro A4 H4 e4 a4 av4 R4 F4 aD4 hD4 ra4 n4 l4 hcomp4
          obtain ⟨Rw4, sub4⟩ := R4.wipe vs
          rw [hw] at Rw4 sub4
          exact ⟨A4, wipeE e4 vs, a4, av4, Rw4, F4.stab (fun p q => R1.own_hid (subw p q)), F4.less fun q z => .inl (sub4 q z), aD4, hD4, ra4, fun z => n4 (sub4 D z), by rw [wipeE_length]; exact l4, hcomp4⟩
        have le3 : et.length = e1.length := by
          rw [R3.len, hs2, ← R1.len]
        cases b with
        | false => exact fin R3 (F'.trans F23) (k3.2.mpr aD) k3.1 ra3 n3 le3 hcomp
        | true =>
          rw [if_pos rfl] at hcomp
          dsimp only
          rw [if_pos rfl]
          obtain ⟨y, ef, hf, hcomp⟩ := bd_eq_ok hcomp
          split at hcomp
          · rename_i hz
            refine ⟨A3, et, R3, ?_⟩
            rw [hf]
            intro A4 H4 R4 F4 v rv
            have k4 := F4.keep D _ k3.1 n3
            have n4 : ¬ Own σ2 ef D := fun z => by
              rcases F4.own D z with w | w
              · exact n3 w
              · rw [k3.1] at w
                cases w
            have st4 : Stab A3 H3 A4 H4 := F4.stab fun p q => R3.own_hid q
            have ra4 := RepDs.mono st4 R3.tup _ _ ra3
            have aD4 : A4 D := k4.2.mpr (k3.2.mpr aD)
            refine ⟨av, k4.1, by rw [← ra.length]; exact szOk.lt hz, ?_⟩
            have ex4 := ExtBut.lst R4.tup aD4 (av ++ [v])
            have st5 := ex4.stab aD4
            obtain ⟨R5, F5⟩ := R4.butTop (F'.trans (F23.trans F4)) aD4 n4 hD ex4 ⟨_, upd_same⟩
            refine fin R5 F5 aD4 upd_same (RepDs.mono st5 R4.tup _ _ (ra4.append (.cons rv .nil))) n4 ?_ hcomp
            rw [R4.len, hs2, ← R1.len]
          · cases hcomp
      · cases hcomp
    · have hn : i = ds.length := by omega
      subst hn
      rw [List.drop_length] at hcomp
      cases hcomp
      refine .inl ⟨stop, ?_⟩
      obtain ⟨R9, F9⟩ := unwipe_ok R1 R hl F
      refine q A H (.ref D) R9 F9 ⟨D, rfl, hD, aD, fun z => ?_, av, hDv, ra⟩
      rcases F9.own D z with w | w
      · obtain ⟨o, eo⟩ := R1.own_some w
        rw [hD] at eo
        cases eo
      · -- not own: D came behind H1
        obtain ⟨j, d, k1, k2⟩ := z
        by_cases hj : j ∈ vs
        · rw [unwipe_in hl hj] at k1
          obtain ⟨o, eo⟩ := R1.own_some ⟨j, d, k1, k2⟩
          rw [hD] at eo
          cases eo
        · rw [unwipe_out hj] at k1
          exact nD ⟨j, d, k1, by rw [wipe_get hj]; exact k2⟩

theorem lc_use {it : AF} {vs fx : List Nat} {g : GF} {t : TF} {f : UF} {N : Nat} (hfx : ∀ j, j < N → j ∉ vs → j ∈ fx) {σ : L2.St} (hN : σ.length = N) {H : Hp} {Q : VK} (h : tEv G XR W (cLc it vs g t f) σ H Q) :
    tLc (tEvI G XR W it) (tEvG G XR W0 fx g) (tEvT G XR W0 t) (tEvU G XR W0 f) vs σ H Q := by
  obtain ⟨A, env, R, p⟩ := h
  refine ⟨A, env, R, ?_⟩
  unfold cLc at p
  cases hi : it env with
  | none =>
    rw [hi] at p
    exact p
  | some r =>
    rw [hi] at p
    cases r with
    | ex x e1 => exact p
    | ok ds e1 =>
      intro A1 H1 R1 F1 J ij D hD
      rw [bd_ok] at p
      unfold lcK at p
      split at p
      · rename_i acc e2 hc
        split at p
        · rename_i hl
          exact lc_ok (by rw [hN]; exact hfx) R1 ij hc hl (fun A' H' v R' F' ok => p A' H' R' (F1.trans F') v (ok.base fun q h => F1.none h)) D hD
        · exact p.elim
      · exact p.elim
end
end Tk
/-! Tk7: comprehensions as expressions, item stores, operations on data. -/
namespace Tk
open PySem PySem.Spec PyProof.Rows L2

section
variable {G : Tb} {XR : XW} {W : WX} {X : Cx}

/-! ### comprehensions -/
def tYesF : TF := fun env => some (.ok true env)
theorem PTs_imp {X : Cx} {e : List Expr} {t t' : TT} (h : PTs X e t) (i : ∀ σ H Q, t' σ H Q → t σ H Q) : PTs X e t' := ⟨fun pins s σ H Q I q => h.run pins s σ H Q I (i σ H Q q)⟩
theorem ets_nil : PTs X [] (tEvT G XR W tYesF) := PTs_imp pts_nil fun σ H Q ⟨A, env, R, p⟩ => p A H R (Fr.refl _ _ _)
theorem ets_one {c : Expr} {t : TF} (h : PT X c (tEvT G XR W t)) : PTs X [c] (tEvT G XR W t) := pts_one h
section
variable {elt tg iter : Expr} {ifs : List Expr} {scope : Scope} {own : List (Str × Nat)} {pos : Pos} {it : AF} {g : GF} {t : TF} {f : EF} {fx fb : List Nat}
theorem ev_lc (hc : X.calm = true) (hN : X.N.Nodup) (hi : PI X tg iter (tEvI G XR W it)) (ok : BlkOk X.N X.env.scope scope own)
    (hg : ∀ (s : Shared) (H : Hp) (C : Addr) (cl : List (Str × Addr)) (fp : List Addr), PG (X.blk s H scope (compEnvC scope cl C X.env) fp) tg (tEvG G XR W0 fb g))
    (ht : ∀ (s : Shared) (H : Hp) (C : Addr) (cl : List (Str × Addr)) (fp : List Addr), PTs (X.blk s H scope (compEnvC scope cl C X.env) fp) ifs (tEvT G XR W0 t))
    (he : ∀ (s : Shared) (H : Hp) (C : Addr) (cl : List (Str × Addr)) (fp : List Addr), PE (X.blk s H scope (compEnvC scope cl C X.env) fp) elt (tEv G XR W0 f))
    (hfx : ∀ j, j < X.N.length → j ∉ own.map (·.2) → j ∈ fb) (hs : ∀ x, foldedSetIterable iter X.env x = pure x := by intro _; rfl) :
    PE X (.ListComp elt [⟨tg, iter, ifs, 0⟩] scope pos) (tEv G XR W (cLc it (own.map (·.2)) g t (cUse f))) :=
  ⟨fun pins s σ H Q I q => (pe_lc hc hN hi ok hg ht (fun s H C cl fp => ev_use (he s H C cl fp)) hs).run pins s σ H Q I (lc_use hfx I.len q)⟩
theorem set_seq {i : Nat} {f : EF} {D : Ends} {σ : L2.St} {A : Hid} {H : Hp} {env : Env} (R : Rep G A σ H env) (p : PostS G XR W fx D σ A H env (sSet fx i f env)) : tEv G XR W f σ H fun x H1 => D.nx (σ.set i (some x)) H1 := by
  unfold sSet at p
  refine ⟨A, env, R, ?_⟩
  cases hf : f env with
  | none =>
    rw [hf] at p
    exact p
  | some r =>
    rw [hf] at p
    cases r with
    | ok o e1 => exact fun A1 H1 R1 F1 v ov => set_out R1 F1 ov p
    | ex x e1 => exact fun A1 H1 c d R1 F1 xr => p σ A1 H1 c d R1 (Keep.refl _ _) F1 xr
theorem es_setLc {i : Nat} {y : Str} {py spos : Pos} (hc : X.calm = true) (hN : X.N.Nodup) (hy : X.N[i]? = some y) (hyl : X.env.scope.names.lookup y = some .local) (hsw : swapsWith (.ListComp elt [⟨tg, iter, ifs, 0⟩] scope pos) (some (.Name y py)) spos.line X.env = pure true)
    (hi : PI X tg iter (tEvI G XR W it)) (ok : BlkOk X.N X.env.scope scope own)
    (hg : ∀ (s : Shared) (H : Hp) (C : Addr) (cl : List (Str × Addr)) (fp : List Addr), PG (X.blk s H scope (compEnvC scope cl C X.env) fp) tg (tEvG G XR W0 fb g))
    (ht : ∀ (s : Shared) (H : Hp) (C : Addr) (cl : List (Str × Addr)) (fp : List Addr), PTs (X.blk s H scope (compEnvC scope cl C X.env) fp) ifs (tEvT G XR W0 t))
    (he : ∀ (s : Shared) (H : Hp) (C : Addr) (cl : List (Str × Addr)) (fp : List Addr), PE (X.blk s H scope (compEnvC scope cl C X.env) fp) elt (tEv G XR W0 f))
    (hfx : ∀ j, j < X.N.length → j ∉ own.map (·.2) → j ∈ fb) (hs : ∀ x, foldedSetIterable iter X.env x = pure x := by intro _; rfl) :
    PS X (.Assign [.Name y py] (.ListComp elt [⟨tg, iter, ifs, 0⟩] scope pos) spos) (tEx G XR W fx (sSet fx i (cLc it (own.map (·.2)) g t (cUse f)))) :=
  ⟨fun pins s σ H D I ⟨A, env, R, p⟩ => (ps_setLc hc hN hy hyl hsw hi ok hg ht (fun s H C cl fp => ev_use (he s H C cl fp)) hs).run pins s σ H D I (lc_use hfx I.len (set_seq R p))⟩
end

/-! ### x[k] = value, x an own list -/
def gIx (i : Nat) (f : EF) : GF := fun d env => match ownAt env i with
  | some _ => bd (f env) fun o e => match ownAt e i, peek e o with
    | some (.lst l), some (.int k) => match ixN l.length k with
      | some j => some (.ok () (e.set i (some (.own (.lst (l.set j d))))))
      | none => none
    | _, _ => none
  | none => none
theorem eg_sub {o ix : Expr} {pos : Pos} {i : Nat} {f : EF} {fx : List Nat} (ho : PE X o (tVar i)) (hi : PE X ix (tEv G XR W f)) (ha : ∀ v, assign (.Subscript o ix pos) X.env v = (do
      let ov ← holding [v] (eval o X.env)
      let iv ← holding [v, ov] (eval ix X.env)
      standAt pos
      holding [v, ov, iv] (setItem ov iv v)
      release [v, ov, iv] []) := by intro _; rfl) : PG X (.Subscript o ix pos) (tEvG G XR W fx (gIx i f)) := PG_imp (pg_sub ho hi set_list ha) fun v σ H Q ⟨A, env, d, R, rd, p⟩ => by
  unfold gIx at p
  split at p
  · rename_i d0 h0
    obtain ⟨v0, e0, q, e1, _⟩ := R.cell i _ (ownAt_eq h0)
    subst e1
    refine ⟨_, e0, ?_⟩
    refine ⟨A, env, R, ?_⟩
    cases hf : f env with
    | none =>
      rw [hf] at p
      exact p
    | some r =>
      rw [hf] at p
      cases r with
      | ex x e1 => exact fun A1 H1 c d R1 F1 xr => p σ A1 H1 c d R1 (Keep.refl _ _) F1 xr
      | ok o1 e1 =>
        intro A1 H1 R1 F1 x ok
        rw [bd_ok] at p
        have rd1 := RepD.mono (F1.stab fun p q => R.own_hid q) R.tup _ _ rd
        split at p
        · rename_i l k h1 h2
          have h1 := ownAt_eq h1
          obtain ⟨v, e2, q', e3, a3, vs, hp, rl⟩ := R1.cell i _ h1
          rw [e0] at e2
          cases e2
          cases e3
          split at p
          · rename_i j hj
            have ek : x = .int k := by
              rcases peek_ok R1 ok h2 with z | ⟨_, _, _, z⟩
              · exact int_of z
              · exact z.elim
            rw [rl.length] at hj
            refine ⟨q, vs, k, j, rfl, ek, hp, hj, ?_⟩
            have ex := ExtBut.lst R1.tup a3 (vs.set j v)
            have st := ex.stab a3
            obtain ⟨R2, F2⟩ := R1.setTop h1 e0 ex (d' := .lst (l.set j d)) ⟨_, upd_same, RepDs.mono st R1.tup _ _ (RepDs.set rd1 j rl)⟩
            exact p σ A1 _ R2 (Keep.refl _ _) (F1.trans F2)
          · exact p.elim
        · exact p.elim
  · exact p.elim

/-! ### operations -/
theorem OpR_imp {f : Value → Value → Sem Value} {r r' : R2} (h : OpR X f r) (i : ∀ x y H Q, r' x y H Q → r x y H Q) : OpR X f r' := fun pins s σ H x y v u Q I r1 r2 q => h pins s σ H x y v u Q I r1 r2 (i x y H Q q)
theorem rep_int {A : Hid} {H : Hp} {i : Int} : RepD G A H (.int i) (.int i) := by unfold RepD; rfl
theorem rep_bl {A : Hid} {H : Hp} {i : Bool} : RepD G A H (.bl i) (.bl i) := by unfold RepD; rfl
theorem rep_str {A : Hid} {H : Hp} {i : Str} : RepD G A H (.str i) (.str i) := by unfold RepD; rfl
theorem rvI {H0 : Hp} {A : Hid} {H : Hp} {i : Int} : RvOk G H0 A H (.dat (.int i)) (.int i) := rep_int (G := G) (A := A) (H := H)
theorem rvB {H0 : Hp} {A : Hid} {H : Hp} {i : Bool} : RvOk G H0 A H (.dat (.bl i)) (.bl i) := rep_bl (G := G) (A := A) (H := H)
theorem rvS {H0 : Hp} {A : Hid} {H : Hp} {i : Str} : RvOk G H0 A H (.dat (.str i)) (.str i) := rep_str (G := G) (A := A) (H := H)
theorem t_int {A : Hid} {H : Hp} {i : Int} {x : V} (h : RepT G A H (.int i) x) : x = .int i := by
  rcases h with z | ⟨_, _, _, z⟩
  · exact int_of z
  · exact z.elim
theorem t_bl {A : Hid} {H : Hp} {i : Bool} {x : V} (h : RepT G A H (.bl i) x) : x = .bl i := bl_of h
theorem t_str {A : Hid} {H : Hp} {i : Str} {x : V} (h : RepT G A H (.str i) x) : x = .str i := by
  rcases h with z | ⟨_, _, _, z⟩
  · unfold RepD at z
    exact z
  · exact z.elim
theorem t_non {A : Hid} {H : Hp} {x : V} (h : RepT G A H .non x) : x = .non := by
  rcases h with z | ⟨_, _, _, z⟩
  · unfold RepD at z
    exact z
  · exact z.elim
theorem t_tup {A : Hid} {H : Hp} {l : List D} {x : V} (h : RepT G A H (.tup l) x) : ∃ a vs, x = .ref a ∧ SqT G.K H a vs ∧ RepDs G A H l vs := by
  rcases h with z | ⟨_, _, _, z⟩
  · unfold RepD at z
    exact z
  · exact z.elim
theorem t_lst {A : Hid} {H : Hp} {l : List D} {x : V} (h : RepT G A H (.lst l) x) : ∃ a vs, x = .ref a ∧ H a = some (.lst vs) ∧ RepDs G A H l vs := by
  rcases h with z | ⟨p, e, _, vs, hp, r⟩
  · unfold RepD at z
    obtain ⟨a, vs, e, s, r⟩ := z
    exact ⟨a, vs, e, s.2, r⟩
  · exact ⟨p, vs, e, hp, r⟩
theorem t_scr {A : Hid} {H : Hp} {l : List Int} {x : V} (h : RepT G A H (.scr l) x) : ∃ a, x = .ref a ∧ SqL G.K H a (l.map V.int) := by
  rcases h with z | ⟨_, _, _, z⟩
  · unfold RepD at z
    obtain ⟨a, e, s⟩ := z
    exact ⟨a, e, s.sq⟩
  · exact z.elim

/-- ints: what a rule asks of them, what comes -/
def fII (c : Int → Int → Bool) (f : Int → Int → D) : D → D → Option RV
  | .int i, .int j => if c i j = true then some (.dat (f i j)) else none
  | _, _ => none
theorem o_ii {C : Int → Int → Prop} {g : Int → Int → V} {c : Int → Int → Bool} {f : Int → Int → D} (hc : ∀ i j, c i j = true → C i j) (hf : ∀ A H i j, RepD G A H (f i j) (g i j)) : Op2 G (rI C g) (fII c f) := fun d d' rv A H x y Q e t h1 h2 q => by
  cases d <;> cases d' <;> try (cases e; done)
  rename_i i j
  have e : (if c i j = true then some (RV.dat (f i j)) else none) = some rv := e
  split at e
  · rename_i hcc
    cases e
    exact ⟨i, j, t_int h1, t_int h2, hc i j hcc, q _ A H (Ext.refl t) (hf A H i j)⟩
  · cases e
def fII0 (f : Int → Int → D) : D → D → Option RV
  | .int i, .int j => some (.dat (f i j))
  | _, _ => none
theorem o_ii0 {g : Int → Int → V} {f : Int → Int → D} (hf : ∀ A H i j, RepD G A H (f i j) (g i j)) : Op2 G (rI0 g) (fII0 f) := fun d d' rv A H x y Q e t h1 h2 q => by
  cases d <;> cases d' <;> try (cases e; done)
  rename_i i j
  have e : some (RV.dat (f i j)) = some rv := e
  cases e
  exact ⟨i, j, t_int h1, t_int h2, q _ A H (Ext.refl t) (hf A H i j)⟩
abbrev fSub := fII0 fun i j => .int (i - j)
theorem o_sub : Op2 G (rI0 fun i j => .int (i - j)) fSub := o_ii0 fun _ _ _ _ => rep_int
def mulOk (i j : Int) : Bool := decide (i.natAbs < 2 ^ 4000) && decide (j.natAbs < 2 ^ 4000)
abbrev fMul := fII mulOk fun i j => .int (i * j)
theorem log2_lt_pow {n k : Nat} (h0 : 0 < k) (h : n < 2 ^ k) : n.log2 < k := by
  by_cases hn : n = 0
  · subst hn
    simpa using h0
  · exact (Nat.log2_lt hn).mpr h
theorem o_mul : Op2 G (rI CMulW fun i j => .int (i * j)) fMul := o_ii (fun i j h => by
  unfold mulOk at h
  rw [Bool.and_eq_true] at h
  have h1 := log2_lt_pow (by decide) (of_decide_eq_true h.1)
  have h2 := log2_lt_pow (by decide) (of_decide_eq_true h.2)
  show i.natAbs.log2 + j.natAbs.log2 < 1000000
  omega) fun _ _ _ _ => rep_int
def divOk (_ j : Int) : Bool := decide (0 < j) && decide (j.natAbs < 2 ^ 4000)
theorem divOk.ok {i j : Int} (h : divOk i j = true) : 0 < j ∧ j.natAbs.log2 < 9000 := by
  unfold divOk at h
  rw [Bool.and_eq_true] at h
  have h2 := log2_lt_pow (by decide) (of_decide_eq_true h.2)
  exact ⟨of_decide_eq_true h.1, by omega⟩
abbrev fDiv := fII divOk fun i j => .int (i / j)
theorem o_div : Op2 G (rI CDivW fun i j => .int (i / j)) fDiv := o_ii (fun i j h => divOk.ok h) fun _ _ _ _ => rep_int
abbrev fMod := fII (fun _ j => decide (0 < j)) fun i j => .int (i % j)
theorem o_mod : Op2 G (rI (fun _ j => 0 < j) fun i j => .int (i % j)) fMod := o_ii (fun i j h => of_decide_eq_true h) fun _ _ _ _ => rep_int
def powOk (i j : Int) : Bool := decide (0 ≤ j) && decide (j ≤ 1000) && decide (i.natAbs < 1000)
abbrev fPow := fII powOk fun i j => .int (i ^ j.toNat)
theorem o_pow : Op2 G (rI CPow fun i j => .int (i ^ j.toNat)) fPow := o_ii (fun i j h => by
  unfold powOk at h
  rw [Bool.and_eq_true, Bool.and_eq_true] at h
  have h1 := of_decide_eq_true h.1.1
  have h2 := of_decide_eq_true h.1.2
  have h3 := of_decide_eq_true h.2
  refine ⟨h1, by omega, Nat.lt_trans h3 (by decide)⟩) fun _ _ _ _ => rep_int
def fNeg : D → Option RV
  | .int i => some (.dat (.int (-i)))
  | _ => none
theorem o_neg : Op1 G (rU fun i => .int (-i)) fNeg := fun d rv A H x Q e t h q => by
  cases d <;> try (cases e; done)
  rename_i i
  cases e
  exact ⟨i, t_int h, q _ A H (Ext.refl t) rvI⟩
abbrev fLt := fII0 fun i j => .bl (decide (i < j))
abbrev fLe := fII0 fun i j => .bl (decide (i ≤ j))
abbrev fGt := fII0 fun i j => .bl (decide (j < i))
abbrev fGe := fII0 fun i j => .bl (decide (j ≤ i))
theorem o_lt : Op2 G (rI0 fun i j => .bl (decide (i < j))) fLt := o_ii0 fun _ _ _ _ => rep_bl
theorem o_le : Op2 G (rI0 fun i j => .bl (decide (i ≤ j))) fLe := o_ii0 fun _ _ _ _ => rep_bl
theorem o_gt : Op2 G (rI0 fun i j => .bl (decide (j < i))) fGt := o_ii0 fun _ _ _ _ => rep_bl
theorem o_ge : Op2 G (rI0 fun i j => .bl (decide (j ≤ i))) fGe := o_ii0 fun _ _ _ _ => rep_bl

/-! + : ints, texts, tuples, lists -/
def fAdd : D → D → Option RV
  | .int i, .int j => some (.dat (.int (i + j)))
  | .str a, .str b => if szOk (a.length + b.length) = true then some (.dat (.str (a ++ b))) else none
  | .tup a, .tup b => if szOk (a.length + b.length) = true then some (.dat (.tup (a ++ b))) else none
  | .lst a, .lst b => if szOk (a.length + b.length) = true then some (.fresh (.lst (a ++ b))) else none
  | _, _ => none
def rAddAll (K : PySem.W.Frag) : R2 := fun x y H Q => (∃ i j, x = .int i ∧ y = .int j ∧ Q (.int (i + j)) H) ∨ (∃ i j, x = .str i ∧ y = .str j ∧ i.length + j.length ≤ sizeLine ∧ Q (.str (i ++ j)) H) ∨ rCatA K x y H Q ∨ rCat x y H Q
theorem op_addAll : OpR X (binaryOp .Add) (rAddAll X.K) := op_add.or (op_add_str.or (op_catA.or op_cat))
theorem o_add : Op2 G (rAddAll G.K) fAdd := fun d d' rv A H x y Q e t h1 h2 q => by
  cases d <;> cases d' <;> try (cases e; done)
  · cases e
    exact .inl ⟨_, _, t_int h1, t_int h2, q _ A H (Ext.refl t) rvI⟩
  · rename_i a b
    have e : (if szOk (a.length + b.length) = true then some (RV.dat (.str (a ++ b))) else none) = some rv := e
    split at e
    · rename_i hz
      cases e
      exact .inr (.inl ⟨_, _, t_str h1, t_str h2, szOk.le hz, q _ A H (Ext.refl t) rvS⟩)
    · cases e
  · rename_i a b
    have e : (if szOk (a.length + b.length) = true then some (RV.dat (.tup (a ++ b))) else none) = some rv := e
    split at e
    · rename_i hz
      cases e
      obtain ⟨p1, v1, e1, s1, r1⟩ := t_tup h1
      obtain ⟨p2, v2, e2, s2, r2⟩ := t_tup h2
      refine .inr (.inr (.inl ⟨p1, p2, v1, v2, e1, e2, s1, s2, by rw [← r1.length, ← r2.length]; exact szOk.le hz, fun z => ?_, fun z z2 => ?_, fun z z2 p hp => ?_⟩))
      · subst z
        have z0 : a = [] := List.eq_nil_of_length_eq_zero r1.length
        subst z0
        refine q _ A H (Ext.refl t) ?_
        show RepD G A H (.tup b) (.ref p2)
        unfold RepD
        exact ⟨p2, v2, rfl, s2, r2⟩
      · subst z2
        have z0 : b = [] := List.eq_nil_of_length_eq_zero r2.length
        subst z0
        refine q _ A H (Ext.refl t) ?_
        show RepD G A H (.tup (a ++ [])) (.ref p1)
        rw [List.append_nil]
        unfold RepD
        exact ⟨p1, v1, rfl, s1, r1⟩
      · exact q _ A _ (Ext.newTup t hp _) (rv_tup t (r1.append r2) hp)
    · cases e
  · rename_i a b
    have e : (if szOk (a.length + b.length) = true then some (RV.fresh (.lst (a ++ b))) else none) = some rv := e
    split at e
    · rename_i hz
      cases e
      obtain ⟨p1, v1, e1, s1, r1⟩ := t_lst h1
      obtain ⟨p2, v2, e2, s2, r2⟩ := t_lst h2
      exact .inr (.inr (.inr ⟨p1, p2, v1, v2, e1, e2, s1, s2, by rw [← r1.length, ← r2.length]; exact szOk.le hz, fun p hp => q _ _ _ (Ext.newLst t hp _) (rv_lst t (r1.append r2) hp)⟩))
    · cases e

/-! == and != of plain data -/
mutual
def toPy : D → Option PyData
  | .non => some .none
  | .bl b => some (.bool b)
  | .int i => some (.int i)
  | .str x => some (.str x)
  | .tup l => (toPys l).map .tuple
  | .lst l => (toPys l).map .list
  | _ => none
def toPys : List D → Option (List PyData)
  | [] => some []
  | d :: ds => match toPy d, toPys ds with
    | some p, some ps => some (p :: ps)
    | _, _ => none
end
mutual
theorem dp_of {A : Hid} {H : Hp} : ∀ (d : D) (p : PyData) (v : V), toPy d = some p → RepD G A H d v → Dp G.K H v p
  | .non, _, _, e, h => by
    unfold toPy at e
    unfold RepD at h
    cases e
    subst h
    exact .non
  | .bl _, _, _, e, h => by
    unfold toPy at e
    unfold RepD at h
    cases e
    subst h
    exact .bl _
  | .int _, _, _, e, h => by
    unfold toPy at e
    unfold RepD at h
    cases e
    subst h
    exact .int _
  | .str _, _, _, e, h => by
    unfold toPy at e
    unfold RepD at h
    cases e
    subst h
    exact .str _
  | .tup l, p, _, e, h => by
    unfold toPy at e
    unfold RepD at h
    obtain ⟨a, vs, rfl, s, r⟩ := h
    cases hp : toPys l with
    | none =>
      rw [hp] at e
      cases e
    | some ps =>
      rw [hp] at e
      cases e
      exact .tup s (dps_of l ps vs hp r)
  | .lst l, p, _, e, h => by
    unfold toPy at e
    unfold RepD at h
    obtain ⟨a, vs, rfl, s, r⟩ := h
    cases hp : toPys l with
    | none =>
      rw [hp] at e
      cases e
    | some ps =>
      rw [hp] at e
      cases e
      exact .lst s.sq (dps_of l ps vs hp r)
  | .dct _ _, _, _, e, _ => by unfold toPy at e; cases e
  | .obj _ _, _, _, e, _ => by unfold toPy at e; cases e
  | .fn _, _, _, e, _ => by unfold toPy at e; cases e
  | .scr _, _, _, e, _ => by unfold toPy at e; cases e
theorem dps_of {A : Hid} {H : Hp} : ∀ (l : List D) (ps : List PyData) (vs : List V), toPys l = some ps → RepDs G A H l vs → DpAll G.K H vs ps
  | [], _, _, e, h => by
    unfold toPys at e
    cases e
    obtain rfl := h.inv0
    exact .nil
  | d :: ds, ps, _, e, h => by
    unfold toPys at e
    obtain ⟨v, r, rfl, h1, h2⟩ := h.inv
    cases hd : toPy d with
    | none =>
      rw [hd] at e
      cases e
    | some p =>
      cases hs : toPys ds with
      | none =>
        rw [hd, hs] at e
        cases e
      | some q =>
        rw [hd, hs] at e
        cases e
        exact .cons (dp_of d p v hd h1) (dps_of ds q r hs h2)
end
theorem dp_t {A : Hid} {H : Hp} {d : D} {p : PyData} {v : V} (e : toPy d = some p) (h : RepT G A H d v) : Dp G.K H v p := by
  rcases h with h | ⟨a, rfl, _, h⟩
  · exact dp_of d p v e h
  · cases d with
    | lst l =>
      unfold toPy at e
      obtain ⟨vs, hp, r⟩ := h
      cases hq : toPys l with
      | none =>
        rw [hq] at e
        cases e
      | some ps =>
        rw [hq] at e
        cases e
        exact .lst (SqL.of hp) (dps_of l ps vs hq r)
    | dct _ _ => unfold toPy at e; cases e
    | obj _ _ => unfold toPy at e; cases e
    | _ => exact h.elim
def eqP (neg : Bool) (d e : D) : Option RV := match toPy d, toPy e with
  | some p, some q => if SeqAt.shaped p = true ∧ SeqAt.shaped q = true then some (.dat (.bl (neg ^^ PyData.eqv p q))) else none
  | _, _ => none
def twoS : D → D → Option (Str × Str)
  | .str x, .str y => some (x, y)
  | _, _ => none
theorem twoS_of {d e : D} {x y : Str} (h : twoS d e = some (x, y)) : d = .str x ∧ e = .str y := by
  unfold twoS at h
  split at h
  · cases h
    exact ⟨rfl, rfl⟩
  · cases h
def eqF (neg : Bool) (d e : D) : Option RV := match twoS d e with
  | some (x, y) => some (.dat (.bl (neg ^^ decide (x = y))))
  | none => eqP neg d e
def rEqT (K : PySem.W.Frag) : R2 := fun x y H Q => rEq x y H Q ∨ rEqD K x y H Q
def rNeT (K : PySem.W.Frag) : R2 := fun x y H Q => rNe x y H Q ∨ rNeD K x y H Q
theorem op_eqT (hu : X.A.units + 64 < cLine) : OpR X (compareOp .Eq) (rEqT X.K) := op_eq.or (op_eqD hu)
theorem op_neT (hu : X.A.units + 64 < cLine) : OpR X (compareOp .NotEq) (rNeT X.K) := op_ne.or (op_neD hu)
theorem strV {A : Hid} {H : Hp} {x : Str} {v : V} (h : RepT G A H (.str x) v) : v = .str x := by
  rcases h with h | ⟨a, rfl, _, h⟩
  · exact h
  · exact h.elim
theorem o_eq : Op2 G (rEqT G.K) (eqF false) := fun d d' rv A H x y Q e t h1 h2 q => by
  unfold eqF at e
  split at e
  · rename_i sx sy hs
    obtain ⟨rfl, rfl⟩ := twoS_of hs
    cases strV h1
    cases strV h2
    cases e
    refine .inl ⟨rfl, q _ A H (Ext.refl t) ?_⟩
    rw [Bool.false_xor, show decide (V.str sx = V.str sy) = decide (sx = sy) from by by_cases hh : sx = sy <;> simp [hh]]
    exact rvB
  unfold eqP at e
  split at e
  · rename_i p1 p2 e1 e2
    split at e
    · rename_i hs
      cases e
      refine .inr ⟨p1, p2, dp_t e1 h1, dp_t e2 h2, hs.1, hs.2, q _ A H (Ext.refl t) ?_⟩
      rw [Bool.false_xor]
      exact rvB
    · cases e
  · cases e
theorem o_ne : Op2 G (rNeT G.K) (eqF true) := fun d d' rv A H x y Q e t h1 h2 q => by
  unfold eqF at e
  split at e
  · rename_i sx sy hs
    obtain ⟨rfl, rfl⟩ := twoS_of hs
    cases strV h1
    cases strV h2
    cases e
    refine .inl ⟨rfl, q _ A H (Ext.refl t) ?_⟩
    rw [Bool.true_xor, show decide (V.str sx = V.str sy) = decide (sx = sy) from by by_cases hh : sx = sy <;> simp [hh]]
    exact rvB
  unfold eqP at e
  split at e
  · rename_i p1 p2 e1 e2
    split at e
    · rename_i hs
      cases e
      refine .inr ⟨p1, p2, dp_t e1 h1, dp_t e2 h2, hs.1, hs.2, q _ A H (Ext.refl t) ?_⟩
      rw [Bool.true_xor]
      exact rvB
    · cases e
  · cases e
/-- is None, is not None -/
def isNon : D → Bool
  | .non => true
  | _ => false
def fIsN (neg : Bool) (d e : D) : Option RV := match e with
  | .non => some (.dat (.bl (neg ^^ isNon d)))
  | _ => none
theorem isNon_v {A : Hid} {H : Hp} {d : D} {x : V} (h : RepT G A H d x) : decide (x = .non) = isNon d := by
  rcases h with h | ⟨p, rfl, _, h⟩
  · cases d <;> unfold RepD at h
    · subst h
      rfl
    all_goals first
      | (subst h; rfl)
      | (obtain ⟨a, vs, rfl, _⟩ := h; rfl)
      | (obtain ⟨a, rfl, _⟩ := h; rfl)
      | (obtain ⟨a, C, dx, ns, vs, rfl, _⟩ := h; rfl)
  · cases d <;> first | exact h.elim | rfl
theorem o_isN : Op2 G (fun x y H Q => y = .non ∧ Q (.bl (decide (x = .non))) H) (fIsN false) := fun d d' rv A H x y Q e t h1 h2 q => by
  unfold fIsN at e
  split at e
  · cases e
    refine ⟨t_non h2, q _ A H (Ext.refl t) ?_⟩
    rw [isNon_v h1, Bool.false_xor]
    exact rvB
  · cases e
theorem o_notN : Op2 G (fun x y H Q => y = .non ∧ Q (.bl (!decide (x = .non))) H) (fIsN true) := fun d d' rv A H x y Q e t h1 h2 q => by
  unfold fIsN at e
  split at e
  · cases e
    refine ⟨t_non h2, q _ A H (Ext.refl t) ?_⟩
    rw [isNon_v h1, Bool.true_xor]
    exact rvB
  · cases e

/-! items, lengths, slices -/
def fIx : D → D → Option RV
  | .lst l, .int i => (atI l i).map .dat
  | .tup l, .int i => (atI l i).map .dat
  | .scr l, .int i => (atI l i).map fun n => .dat (.int n)
  | .str z, .int i => if szOk z.length = true then (atI z.cps.toList i).map fun c => .dat (.str ⟨#[c]⟩) else none
  | _, _ => none
theorem at_rep {A : Hid} {H : Hp} {l : List D} {vs : List V} {i : Int} {d : D} (r : RepDs G A H l vs) (h : atI l i = some d) : ∃ v, atI vs i = some v ∧ RepD G A H d v := by
  unfold atI at h ⊢
  rw [r.length] at h
  cases hj : ixN vs.length i with
  | none =>
    rw [hj] at h
    cases h
  | some j =>
    rw [hj] at h
    obtain ⟨v, e, k⟩ := r.get (show l[j]? = some d from h)
    exact ⟨v, e, k⟩
theorem at_map {α β : Type} {l : List α} {i : Int} {a : α} (f : α → β) (h : atI l i = some a) : atI (l.map f) i = some (f a) := by
  unfold atI at h ⊢
  rw [List.length_map]
  cases hj : ixN l.length i with
  | none =>
    rw [hj] at h
    cases h
  | some j =>
    rw [hj] at h
    show (l.map f)[j]? = some (f a)
    rw [List.getElem?_map, show l[j]? = some a from h]
    rfl
theorem o_ix : Op2 G (rIx G.K) fIx := fun d d' rv A H x y Q e t h1 h2 q => by
  cases d <;> cases d' <;> try (cases e; done)
  · rename_i z i
    have e : (if szOk z.length = true then (atI z.cps.toList i).map fun c => RV.dat (.str ⟨#[c]⟩) else none) = some rv := e
    split at e
    · rename_i hz
      cases hc : atI z.cps.toList i with
      | none =>
        rw [hc] at e
        cases e
      | some c =>
        rw [hc] at e
        cases e
        exact .inr (.inr ⟨z, i, c, t_str h1, t_int h2, szOk.le hz, hc, q _ A H (Ext.refl t) rvS⟩)
    · cases e
  · rename_i l i
    have e : (atI l i).map RV.dat = some rv := e
    cases hc : atI l i with
    | none =>
      rw [hc] at e
      cases e
    | some d =>
      rw [hc] at e
      cases e
      obtain ⟨a, vs, e1, s, r⟩ := t_tup h1
      obtain ⟨v, e2, k⟩ := at_rep r hc
      exact .inr (.inl ⟨a, vs, i, v, e1, t_int h2, s, e2, q _ A H (Ext.refl t) k⟩)
  · rename_i l i
    have e : (atI l i).map RV.dat = some rv := e
    cases hc : atI l i with
    | none =>
      rw [hc] at e
      cases e
    | some d =>
      rw [hc] at e
      cases e
      obtain ⟨a, vs, e1, s, r⟩ := t_lst h1
      obtain ⟨v, e2, k⟩ := at_rep r hc
      exact .inl ⟨a, vs, i, v, e1, t_int h2, SqL.of s, e2, q _ A H (Ext.refl t) k⟩
  · rename_i l i
    have e : ((atI l i).map fun n => RV.dat (.int n)) = some rv := e
    cases hc : atI l i with
    | none =>
      rw [hc] at e
      cases e
    | some d =>
      rw [hc] at e
      cases e
      obtain ⟨a, e1, s⟩ := t_scr h1
      exact .inl ⟨a, _, i, _, e1, t_int h2, s, at_map V.int hc, q _ A H (Ext.refl t) rvI⟩
def fLen : D → Option RV
  | .lst l => some (.dat (.int l.length))
  | .tup l => some (.dat (.int l.length))
  | .scr l => some (.dat (.int l.length))
  | .str z => if szOk z.length = true then some (.dat (.int z.length)) else none
  | _ => none
def rLenAll (K : PySem.W.Frag) : List V → Hp → VK → Prop := fun xs H Q => (∃ p ys, xs = [.ref p] ∧ (SqL K H p ys ∨ SqT K H p ys) ∧ Q (.int ys.length) H) ∨ ∃ z, xs = [.str z] ∧ z.length ≤ sizeLine ∧ Q (.int z.length) H
theorem call_lenAll : CallR X (.builtin "len") (rLenAll X.K) := call_len_seq.or call_len_str
theorem o_len : Cb1 G (rLenAll G.K) fLen := fun d rv A H x Q e t h q => by
  cases d <;> try (cases e; done)
  · rename_i z
    have e : (if szOk z.length = true then some (RV.dat (.int z.length)) else none) = some rv := e
    split at e
    · rename_i hz
      cases e
      exact .inr ⟨z, by rw [t_str h], szOk.le hz, q _ A H (Ext.refl t) rvI⟩
    · cases e
  · cases e
    obtain ⟨a, vs, e1, s, r⟩ := t_tup h
    subst e1
    refine .inl ⟨a, vs, rfl, .inr s, q _ A H (Ext.refl t) ?_⟩
    rw [← r.length]
    exact rvI
  · cases e
    obtain ⟨a, vs, e1, s, r⟩ := t_lst h
    subst e1
    refine .inl ⟨a, vs, rfl, .inl (SqL.of s), q _ A H (Ext.refl t) ?_⟩
    rw [← r.length]
    exact rvI
  · rename_i l
    cases e
    obtain ⟨a, e1, s⟩ := t_scr h
    subst e1
    refine .inl ⟨a, _, rfl, .inl s, q _ A H (Ext.refl t) ?_⟩
    rw [List.length_map]
    exact rvI
/-! built-ins of ints -/
def fAbs : D → Option RV
  | .int i => some (.dat (.int (if i < 0 then -i else i)))
  | _ => none
theorem o_abs : Cb1 G (fun xs H Q => ∃ i, xs = [.int i] ∧ Q (.int (if i < 0 then -i else i)) H) fAbs := fun d rv A H x Q e t h q => by
  cases d <;> try (cases e; done)
  cases e
  exact ⟨_, by rw [t_int h], q _ A H (Ext.refl t) rvI⟩
abbrev fMax := fII0 fun i j => .int (if j > i then j else i)
abbrev fMin := fII0 fun i j => .int (if j < i then j else i)
theorem o_max : Cb2 G (fun xs H Q => ∃ i j, xs = [.int i, .int j] ∧ Q (.int (if j > i then j else i)) H) fMax := fun d d' rv A H x y Q e t h1 h2 q => by
  cases d <;> cases d' <;> try (cases e; done)
  cases e
  exact ⟨_, _, by rw [t_int h1, t_int h2], q _ A H (Ext.refl t) rvI⟩
theorem o_min : Cb2 G (fun xs H Q => ∃ i j, xs = [.int i, .int j] ∧ Q (.int (if j < i then j else i)) H) fMin := fun d d' rv A H x y Q e t h1 h2 q => by
  cases d <;> cases d' <;> try (cases e; done)
  cases e
  exact ⟨_, _, by rw [t_int h1, t_int h2], q _ A H (Ext.refl t) rvI⟩
abbrev fDivmod := fII divOk fun i j => .tup [.int (i / j), .int (i % j)]
theorem o_divmod : Cb2 G (fun xs H Q => ∃ i j, xs = [.int i, .int j] ∧ CDivP i j ∧ ∀ p, H p = none → Q (.ref p) (upd H p (.tup [.int (i / j), .int (i % j)]))) fDivmod := fun d d' rv A H x y Q e t h1 h2 q => by
  cases d <;> cases d' <;> try (cases e; done)
  rename_i i j
  have e : (if divOk i j = true then some (RV.dat (.tup [.int (i / j), .int (i % j)])) else none) = some rv := e
  split at e
  · rename_i hz
    cases e
    have z := divOk.ok hz
    exact ⟨i, j, by rw [t_int h1, t_int h2], ⟨z.1, PyProof.noPylong_of_log2 z.2⟩, fun p hp => q _ A _ (Ext.newTup t hp _) (rv_tup t (.cons rep_int (.cons rep_int .nil)) hp)⟩
  · cases e
def fInt : D → Option RV
  | .int i => some (.dat (.int i))
  | .bl b => some (.dat (.int (if b then 1 else 0)))
  | _ => none
theorem o_int : Cb1 G (fun xs H Q => (∃ i, xs = [.int i] ∧ Q (.int i) H) ∨ ∃ k, xs = [.bl k] ∧ Q (.int (if k then 1 else 0)) H) fInt := fun d rv A H x Q e t h q => by
  cases d <;> try (cases e; done)
  · cases e
    exact .inr ⟨_, by rw [t_bl h], q _ A H (Ext.refl t) rvI⟩
  · cases e
    exact .inl ⟨_, by rw [t_int h], q _ A H (Ext.refl t) rvI⟩
end
end Tk
/-! Tk8: slices, isinstance, repr; the end of a law. -/
namespace Tk
open PySem PySem.Spec PyProof.Rows L2

section
variable {G : Tb} {XR : XW} {W : WX} {X : Cx}

/-! ### slices -/
abbrev OF := Env → Option (Rs (Option Int))
variable (G XR W) in
def tEvO (f : OF) : TO := fun σ H Q => ∃ A env, Rep G A σ H env ∧ Post G XR W σ A H env (fun o _ _ H' => Q o H') (f env)
theorem PO_imp {X : Cx} {e : Option Expr} {t t' : TO} (h : PO X e t) (i : ∀ σ H Q, t' σ H Q → t σ H Q) : PO X e t' := ⟨fun pins s σ H Q I q => h.run pins s σ H Q I (i σ H Q q)⟩
def oNone : OF := fun env => some (.ok none env)
def oSome (f : EF) : OF := fun env => bd (f env) fun o e => match peek e o with
  | some (.int i) => some (.ok (some i) e)
  | _ => none
theorem eo_none : PO X none (tEvO G XR W oNone) := PO_imp po_none fun σ H Q ⟨A, env, R, p⟩ => p A H R (Fr.refl _ _ _)
theorem eo_some {e : Expr} {f : EF} (h : PE X e (tEv G XR W f)) : PO X (some e) (tEvO G XR W (oSome f)) := PO_imp (po_some h) fun σ H Q ⟨A, env, R, p⟩ => by
  refine (ev_seq R p).imp fun x H1 ⟨A1, e1, o1, R1, ok, F1, p1⟩ => ?_
  split at p1
  · rename_i i hi
    exact ⟨i, t_int (peek_ok R1 ok hi), p1 A1 H1 R1 (Fr.refl _ _ _)⟩
  · exact p1.elim
theorem evO_seq {β : Type} {f : OF} {k : Option Int → Env → Option (Rs β)} {KK : β → Env → Hid → Hp → Prop} {σ : L2.St} {A : Hid} {H : Hp} {env : Env} (R : Rep G A σ H env) (p : Post G XR W σ A H env KK (bd (f env) k)) :
    tEvO G XR W f σ H (fun b H1 => ∃ A1 env1, Rep G A1 σ H1 env1 ∧ Fr (Own σ env) A H (Own σ env1) A1 H1 ∧ Post G XR W σ A1 H1 env1 KK (k b env1)) := by
  refine ⟨A, env, R, ?_⟩
  cases hf : f env with
  | none =>
    rw [hf] at p
    exact p
  | some r =>
    rw [hf] at p
    cases r with
    | ok o e1 => exact fun A1 H1 R1 F1 => ⟨A1, e1, R1, F1, Post.imp F1 (fun _ _ _ _ _ q => q) p⟩
    | ex x e1 => exact p
theorem tEvO.imp {f : OF} {σ : L2.St} {H : Hp} {Q Q' : Option Int → Hp → Prop} (h : tEvO G XR W f σ H Q) (i : ∀ v H', Q v H' → Q' v H') : tEvO G XR W f σ H Q' := by
  obtain ⟨A, env, R, p⟩ := h
  exact ⟨A, env, R, Post.imp (Fr.refl _ _ _) (fun _ _ _ _ _ q => i _ _ q) p⟩
def cutG {α : Type} (xs : List α) (lo hi : Option Int) : List α := (xs.drop (HT.sIx xs.length 0 lo)).take (HT.sIx xs.length xs.length hi - HT.sIx xs.length 0 lo)
def fSl (d : D) (lo hi : Option Int) : Option RV := match d with
  | .lst l => some (.fresh (.lst (cutG l lo hi)))
  | .tup l => some (.dat (.tup (cutG l lo hi)))
  | .str z => if szOk z.length = true then some (.dat (.str (cutS z lo hi))) else none
  | _ => none
def rSlAll (K : PySem.W.Frag) : V → Option Int → Option Int → Hp → VK → Prop := fun x lo hi H Q => rSlL K x lo hi H Q ∨ rSlA K x lo hi H Q ∨ rSlS x lo hi H Q
theorem sl_all : SlR X (rSlAll X.K) := sl_list.or (sl_tupA.or sl_str)
theorem cut_rep {A : Hid} {H : Hp} {l : List D} {vs : List V} (lo hi : Option Int) (r : RepDs G A H l vs) : RepDs G A H (cutG l lo hi) (cutV vs lo hi) := by
  unfold cutG cutV
  rw [r.length]
  exact (r.drop _).take _
theorem o_sl {d : D} {rv : RV} {A : Hid} {H : Hp} {x : V} {lo hi : Option Int} {Q : VK} (e : fSl d lo hi = some rv) (t : TupOk A H) (h : RepT G A H d x) (q : ∀ v A' H', Ext A H A' H' → RvOk G H A' H' rv v → Q v H') : rSlAll G.K x lo hi H Q := by
  cases d <;> try (cases e; done)
  · rename_i z
    have e : (if szOk z.length = true then some (RV.dat (.str (cutS z lo hi))) else none) = some rv := e
    split at e
    · rename_i hz
      cases e
      exact .inr (.inr ⟨z, t_str h, szOk.le hz, q _ A H (Ext.refl t) rvS⟩)
    · cases e
  · rename_i l
    cases e
    obtain ⟨a, vs, e1, s, r⟩ := t_tup h
    refine .inr (.inl ⟨a, vs, e1, s, fun z => ?_, fun _ p hp => ?_⟩)
    · refine q _ A H (Ext.refl t) ?_
      show RepD G A H (.tup (cutG l lo hi)) (.ref a)
      have ew : cutG l lo hi = l := by
        unfold cutG
        rw [r.length, z.1, z.2, List.drop_zero, Nat.sub_zero, ← r.length, List.take_length]
      rw [ew]
      unfold RepD
      exact ⟨a, vs, rfl, s, r⟩
    · exact q _ A _ (Ext.newTup t hp _) (rv_tup t (cut_rep lo hi r) hp)
  · rename_i l
    cases e
    obtain ⟨a, vs, e1, s, r⟩ := t_lst h
    exact .inl ⟨a, vs, e1, SqL.of s, fun p hp => q _ _ _ (Ext.newLst t hp _) (rv_lst t (cut_rep lo hi r) hp)⟩
def cSl (f : EF) (lo hi : OF) : EF := fun env => bd (f env) fun o e => bd (lo e) fun l e1 => bd (hi e1) fun h e2 => match peek e2 o with
  | some d => match fSl d l h with
    | some rv => some (.ok rv.out e2)
    | none => none
  | none => none
theorem ev_slice {e : Expr} {lo hi : Option Expr} {p2 pos : Pos} {f : EF} {l h : OF} (hk : X.K = G.K) (he : PE X e (tEv G XR W f)) (hl : PO X lo (tEvO G XR W l)) (hu : PO X hi (tEvO G XR W h)) : PE X (.Subscript e (.Slice lo hi none p2) pos) (tEv G XR W (cSl f l h)) :=
  PE_imp (pe_slice sl_all he hl hu) fun σ H Q ⟨A, env, R, p⟩ => by
    refine (ev_seq R p).imp fun x H1 ⟨A1, e1, o1, R1, ok, F1, p1⟩ => ?_
    refine (evO_seq R1 p1).imp fun lo' H2 ⟨A2, e2, R2, F2, p2⟩ => ?_
    refine (evO_seq R2 p2).imp fun hi' H3 ⟨A3, e3, R3, F3, p3⟩ => ?_
    have ok3 := ok.mono R1 (F2.trans F3)
    split at p3
    · rename_i d hd
      split at p3
      · rename_i rv hr
        rw [hk]
        exact o_sl hr R3.tup (peek_ok R3 ok3 hd) fun v A' H' ex ro => fin_rv R3 (fun p q => F1.none (F2.none (F3.none q))) p3 ex ro
      · exact p3.elim
    · exact p3.elim

/-! ### isinstance with a built-in class -/
def tyName : D → Option String
  | .non => some "NoneType"
  | .bl _ => some "bool"
  | .int _ => some "int"
  | .str _ => some "str"
  | .tup _ => some "tuple"
  | .lst _ => some "list"
  | .dct _ _ => some "dict"
  | _ => none
theorem ty_of {A : Hid} {H : Hp} {d : D} {x : V} {n : String} (h : RepT G A H d x) (e : tyName d = some n) : TyX G.K H x (.type n) := by
  rcases h with h | ⟨p, rfl, _, h⟩
  · cases d <;> try (cases e; done)
    · unfold RepD at h
      cases e
      subst h
      exact .base .non
    · unfold RepD at h
      cases e
      subst h
      exact .base (.bl _)
    · unfold RepD at h
      cases e
      subst h
      exact .base (.int _)
    · unfold RepD at h
      cases e
      subst h
      exact .base (.str _)
    · unfold RepD at h
      cases e
      obtain ⟨a, vs, rfl, s, r⟩ := h
      rcases s with (s | ⟨o, s⟩) | ⟨o, its, k, hk, hc, _⟩
      · exact .base (.tup s)
      · exact .fTuple s
      · exact .kTuple hk hc
    · unfold RepD at h
      cases e
      obtain ⟨a, vs, rfl, s, r⟩ := h
      exact .base (.lst s.2)
    · unfold RepD at h
      cases e
      obtain ⟨a, vs, rfl, _, s, _⟩ := h
      rcases s with s | ⟨o, s⟩
      · exact .base (.dK s)
      · exact .fDict s
  · cases d <;> try (exact h.elim)
    · cases e
      obtain ⟨vs, hp, _⟩ := h
      exact .base (.lst hp)
    · cases e
      obtain ⟨vs, hp, _⟩ := h
      exact .base (.dK hp)
    · cases e
def fIsi (T : String) (d : D) : Option RV := match tyName d with
  | some a => match kitB a T with
    | some b => some (.dat (.bl b))
    | none => none
  | none => none
theorem ev_isi {T : String} {x : Str} {p p1 pos : Pos} {e : Expr} {f : EF} {k : Nat} (hk : X.K = G.K) (hg : Gl X "isinstance") (hm : X.mg "isinstance" = none) (hv : bootBuiltins "isinstance" = some (.builtin "isinstance")) (hgT : Gl X x) (hmT : X.mg x = none) (hvT : bootBuiltins x = some (.type T)) (he : PE X e (tEv G XR W f))
    (hn : x ≠ "__name__" := by decide) (hd : (x == ("__debug__" : Str)) = false := by decide) (hs : starEach [e, .Name x p1] X.env = (false, eval e X.env) :: starEach [.Name x p1] X.env := by rfl) :
    PE X (.Call (.Name "isinstance" p) [e, .Name x p1] [] pos) (tEv G XR W (cUn (fIsi T) f)) :=
  PE_imp (pe_callB call_isi hg hm hv (pa_cons he (pa_cons (pe_bltn (v := .ty T) hgT hmT hvT rfl hn hd) pa_nil (by rfl)) hs) (by decide) (by decide) hs (by rfl)) fun σ H Q h => by
    refine use1 (r := fun x H Q => rIsi X.K [x, .ty T] H Q) (fun d rv A H x Q e t h q => ?_) h
    unfold fIsi at e
    split at e
    · rename_i a ha
      split at e
      · rename_i b hb
        cases e
        rw [hk]
        exact ⟨x, .ty T, .type a, .type T, b, rfl, .ty T, ty_of h ha, kit_ty hb, q _ A H (Ext.refl t) rvB⟩
      · cases e
    · cases e

/-! ### repr -/
def fRepr (d : D) : Option RV := match toPy d with
  | some p => if PyData.showable p = true ∧ SeqAt.shaped p = true ∧ szOk p.shown.length = true ∧ PyData.hasDict p = false then some (.dat (.str p.shown)) else none
  | none => none
def rRepr (K : PySem.W.Frag) : List V → Hp → VK → Prop := fun xs H Q => ∃ x p, xs = [x] ∧ Dp K H x p ∧ PyData.showable p = true ∧ SeqAt.shaped p = true ∧ p.shown.length ≤ sizeLine ∧ PyData.hasDict p = false ∧ Q (.str p.shown) H
theorem call_repr (hgu : X.A.guards = some []) (hun : X.A.units + 150 < cLine) : CallR X (.builtin "repr") (rRepr X.K) := by
  intro pins s σ H xs us Q I r h
  obtain ⟨x, p, rfl, hp, hs, hsh, hz, hd, q⟩ := h
  obtain ⟨u, rfl, ru⟩ := vals1 r
  cases hp with
  | non =>
    cases ru
    exact PySem.P.repr_of_none ⟨.str _, H, I.tok _, ⟨_, rfl⟩, q⟩
  | bl b =>
    cases ru
    exact PySem.P.repr_of_bool ⟨.str _, H, I.tok _, ⟨_, rfl⟩, q⟩
  | int i =>
    obtain ⟨t, rfl⟩ := ru
    exact PySem.P.repr_of_int (of_decide_eq_true hs) ⟨.str _, H, I.tok _, ⟨_, rfl⟩, q⟩
  | str z =>
    obtain ⟨t, rfl⟩ := ru
    exact PySem.P.repr_of_str ⟨.str _, H, I.tok _, ⟨_, rfl⟩, q⟩ hz
  | lst sq da =>
    obtain ⟨as, hr⟩ := Dp.reads I _ _ _ (.lst sq da) ru
    cases ru
    have hdp : (PyData.list _).depth ≤ 64 := of_decide_eq_true (Bool.and_eq_true_iff.mp hsh).2
    exact repr_of_reads' hr hs (PyData.noDict_hsm hd) hgu (by omega) (fun _ _ e => e) (fun h' u tk hk => ⟨.str _, H, I.kept hk, ⟨_, rfl⟩, q⟩) hz
  | tup sq da =>
    obtain ⟨as, hr⟩ := Dp.reads I _ _ _ (.tup sq da) ru
    cases ru
    have hdp : (PyData.tuple _).depth ≤ 64 := of_decide_eq_true (Bool.and_eq_true_iff.mp hsh).2
    exact repr_of_reads' hr hs (PyData.noDict_hsm hd) hgu (by omega) (fun _ _ e => e) (fun h' u tk hk => ⟨.str _, H, I.kept hk, ⟨_, rfl⟩, q⟩) hz
theorem o_repr : Cb1 G (rRepr G.K) fRepr := fun d rv A H x Q e t h q => by
  unfold fRepr at e
  split at e
  · rename_i p hp
    split at e
    · rename_i hc
      cases e
      exact ⟨x, p, rfl, dp_t hp h, hc.1, hc.2.1, szOk.le hc.2.2.1, hc.2.2.2, q _ A H (Ext.refl t) rvS⟩
    · cases e
  · cases e
end

/-! ### the end of a law -/
theorem law_g {P : Program} {w : World} {K : PySem.W.Frag} {mg mb : Str → Option Value} {k : Nat} {fa a : Addr} {fd : FuncData} {x : Str} {sp : Sp} {s₁ : Shared} {vs : List Value} {ns : List Int}
    (inK : K.In s₁.heap) (hns : s₁.heap.Ns mainGlobals mg) (hb : s₁.heap.Ns builtinsNs mb) (hbb : ∀ x : Str, x ≠ "__name__" → mb x = bootBuiltins x) (hlim : s₁.heap.NoLimit) (hg : s₁.gens = #[])
    (ha : s₁.heap.get? a = some { cls := .type "list", data := .seq vs.toArray }) (hi : IntsAre vs ns) (hl : ns.length ≤ sizeLine) (room : Room k callerA)
    (F : ∀ base : Heap, K.In base → base.Ns mainGlobals mg → FnG P w K mg base k fa fd [x] sp) (hbind : ∀ (s : Shared) (u : Value), BindsTo s fd ⟨[u], []⟩ [(x, u)])
    (hsp : ∀ H : Hp, (((∃ o, H a = some (.frz o (.lst (ns.map V.int)))) ∨ SqL K (fun _ => none) a (ns.map V.int))) → sp [.ref a] H (fun v _ => v = .bl true) fun _ _ _ => False) :
    codeAny (model P w) callerA (.call (.ref fa) ⟨[.ref a], []⟩) (fun r s' => r = .ok (.ret (.bool true)) ∧ OldK s₁.heap s'.heap ∧ s'.os = s₁.os ∧ AllBare s'.gens) s₁ := by
  have rv := vals_ints hi
  -- over any abstract heap that tracks the script alone, or nothing
  have core : ∀ H : Hp, (∀ b, H b = none ∨ ∃ o xs, H b = some (.frz o (.lst xs))) → (((∃ o, H a = some (.frz o (.lst (ns.map V.int)))) ∨ SqL K (fun _ => none) a (ns.map V.int))) → HOk P w H s₁.heap → (∀ b, H b ≠ none → b = a) → (H a ≠ none → K.lookup a = none) →
      codeAny (model P w) callerA (.call (.ref fa) ⟨[.ref a], []⟩) (fun r s' => r = .ok (.ret (.bool true)) ∧ OldK s₁.heap s'.heap ∧ s'.os = s₁.os ∧ AllBare s'.gens) s₁ := by
    intro H only hS hok isA noK
    have dictFree : ∀ {b : Addr} {o : Obj} {es : Array DictEntry} {ep : Nat}, s₁.heap.get? b = some o → o.data = .dict es ep → H b = none := by
      intro b o es ep e d
      cases q : H b with
      | none => rfl
      | some u =>
        have hba : b = a := isA b (by rw [q]; simp)
        subst hba
        rw [ha] at e
        cases e
        have d' : Data.seq vs.toArray _ = Data.dict es ep := d
        cases d'
    have nsIn : ∀ {b : Addr} {m : Str → Option Value}, s₁.heap.Ns b m → (hidT s₁.heap H).Ns b m := fun {b m} ⟨o, es, ep, e, d, r⟩ => ⟨o, es, ep, hidT_get e (dictFree e d), d, r⟩
    have kb : K.In (hidT s₁.heap H) := fun b o e => hidT_get (inK b o e) (by
      cases q : H b with
      | none => rfl
      | some u =>
        have hba : b = a := isA b (by rw [q]; simp)
        subst hba
        have z := noK (by rw [q]; simp)
        rw [z] at e
        cases e)
    have hM : Mod K mg (hidT s₁.heap H) := ⟨kb, nsIn hns, ⟨mb, nsIn hb, hbb⟩, let ⟨mc, h1, h2⟩ := hlim; ⟨mc, nsIn h1, h2⟩⟩
    have env0 : Env0 P w K mg (hidT s₁.heap H) callerA [] s₁ H :=
      ⟨rfl, hM, fun b o e => of_hidT e, Nat.le_of_eq (hidT_size _ _), trivial, fun b hb => absurd (show b ∈ ([] : List Addr) from hb) (by simp), hok, .of_eq hg⟩
    refine codeAny_mono ((F _ kb (nsIn hns)).run callerA [] s₁ H ⟨[.ref a], []⟩ [.ref a] [.ref a] _ _ room rfl env0 (hbind s₁ (.ref a)) (.cons rfl .nil) (hsp H hS)) fun r s' h => ?_
    cases r with
    | error e =>
      obtain ⟨_, _, _, _, _, _, _, _, _, _, _, _, z⟩ := (show L2.CX P w [] H s₁ (fun _ _ _ => False) e s' from h)
      exact z.elim
    | ok fl =>
      cases fl with
      | next => exact h.elim
      | brk => exact h.elim
      | cont => exact h.elim
      | ret u =>
        obtain ⟨v, H', os, bare, un, hok', r', q⟩ := h
        have q' : v = .bl true := q
        subst q'
        obtain rfl : u = Value.bool true := r'
        refine ⟨rfl, OldK.of_keep fun b o e => ?_, os, bare⟩
        cases q : H b with
        | none => exact un.keep b o e q (fun z => absurd (show b ∈ ([] : List Addr) from z) (by simp)) (by simp)
        | some u =>
          rcases only b with z | ⟨ob, xs, z⟩
          · rw [q] at z
            cases z
          · have z2 := un.frzs b ob _ z
            obtain ⟨e1, _⟩ := hok b _ z
            obtain ⟨e2, _⟩ := hok' b _ z2
            rw [e] at e1
            cases e1
            exact e2
  have lenV := hi.length
  cases hk : K.lookup a with
  | some o =>
    have e := inK a o hk
    rw [ha] at e
    cases e
    exact core (fun _ => none) (fun _ => .inl rfl) (.inr (.inr ⟨_, vs.toArray, _, hk, rfl, rfl, rfl, by rw [List.size_toArray, lenV]; exact hl, by simpa using rv⟩))
      (fun b u z => by
        have z' : (none : Option HO) = some u := z
        cases z') (fun b z => absurd rfl z) fun z => absurd rfl z
  | none =>
    refine core (fun b => if b = a then some (.frz { cls := .type "list", data := .seq vs.toArray } (.lst (ns.map V.int))) else none) (fun b => ?_) (.inl ⟨_, if_pos rfl⟩) (fun b u z => ?_) (fun b z => ?_) fun _ => hk
    · by_cases hb : b = a
      · exact .inr ⟨_, _, if_pos hb⟩
      · exact .inl (if_neg hb)
    · by_cases hb : b = a
      · have z' := (if_pos hb).symm.trans z
        cases z'
        subst hb
        exact ⟨ha, by rw [List.length_map]; exact hl, vs, _, rv, ha⟩
      · have z' := (if_neg hb).symm.trans z
        cases z'
    · by_cases hb : b = a
      · exact hb
      · exact absurd (if_neg hb) z

/-- the goal that the head leaves, from the law's function of data -/
theorem walk_g {l : PySem.W.OpenLaw} {n k : Nat} {q : Program} {loose : List Str} {XP : (Str → Option Value) → Heap → Prop} {YP : World → Heap → Prop} {d : DefRec} {K : Params → PySem.W.Frag} {x : Str} {G : World → Tb} {XR : XW} {Φ : List D → Option RR}
    (hn : l.most = some n) (hn2 : n ≤ sizeLine) (hdf : d.params.defaults = []) (hr : Room k callerA) (hG : ∀ w, (G w).K = K w.params) (hY : ∀ (w : World) (h : Heap), YP w h → (K w.params).In h)
    (F : ∀ (w : World) (mg : Str → Option Value) (fa : Addr) (h : Heap), (K w.params).In h → h.Ns mainGlobals mg → mg d.name = some (.ref fa) →
      ∃ fd : FuncData, (∀ (s : Shared) (u : Value), BindsTo s fd ⟨[u], []⟩ [(x, u)]) ∧ ∀ base : Heap, (K w.params).In base → base.Ns mainGlobals mg → FnG l.prog w (K w.params) mg base k fa fd [x] (spP (G w) XR 1 Φ))
    (hΦ : ∀ ns : List Int, ns.length ≤ n → (∀ z ∈ ns, Builtin.Int.intBits z ≤ 1048576) → Φ [.scr ns] = some (.ok (.dat (.bl true)))) : PySem.W.WalkO q loose XP YP l.row.toRowW d [] (fun f vs => PySem.call f vs) := by
  refine Att.attach_callB hn hdf fun w s₀ s₁ mg mb fa o pm cd doc a vs ns Gr Y ho hd hcd hmg hobj hints hlen hbits hg => ?_
  have KX := hY w _ Y
  obtain ⟨fd, hb, hF⟩ := F w mg fa _ KX Gr.T.g hmg
  refine law_g KX Gr.T.g Gr.T.b Gr.T.builtins Gr.T.nolimit hg hobj hints (Nat.le_trans hlen hn2) hr hF hb fun H hS => ?_
  refine ⟨fun _ => False, [.scr ns], rfl, fun _ z => z.elim, .cons ?_ .nil, ?_⟩
  · unfold RepD
    refine ⟨a, rfl, ?_⟩
    rcases hS with ⟨o, e⟩ | e
    · exact .inl ⟨fun z => z, o, e⟩
    · rw [← hG w] at e
      exact .inr e
  · rw [hΦ ns hlen hbits]
    intro v A' H' _ ro
    unfold RvOk at ro
    unfold RepD at ro
    exact ro
end Tk
/-! Tk9: two names stored at once. -/
namespace Tk
open PySem PySem.Spec PyProof.Rows L2
section
variable {G : Tb} {XR : XW} {W : WX} {X : Cx} {fx : List Nat}

/-- a slot's thing becomes data; else as it is -/
def rsl (o : Out) (e : Env) : Option (RV × Env) := match o with
  | .dat d => some (.dat d, e)
  | .fresh d => some (.fresh d, e)
  | .slot i => match use e (.slot i) with
    | some (.ok d e2) => some (.dat d, e2)
    | _ => none
def RV.cell : RV → Cell
  | .dat d => .dat d
  | .fresh d => .own d
def parK (fx : List Nat) (i j : Nat) (o1 o2 : Out) (e : Env) : Option (Rs Fl) := match rsl o1 e with
  | some (r1, e1) => match rsl o2 e1 with
    | some (r2, e2) => if i ∈ fx ∨ j ∈ fx ∨ e2.length ≤ i ∨ e2.length ≤ j ∨ i = j then none else some (.ok .next ((e2.set i (some r1.cell)).set j (some r2.cell)))
    | none => none
  | none => none
def sPar (fx : List Nat) (i j : Nat) (f g : EF) : SF := fun env => bd (f env) fun o1 e1 => bd (g e1) fun o2 e2 => parK fx i j o1 o2 e2

def RvAt (G : Tb) (H0 : Hp) (A : Hid) (σ : L2.St) (H : Hp) (e : Env) (r : RV) (v : V) : Prop := OutOk G H0 A σ H e r.out v
theorem rsl_ok {σ : L2.St} {A A0 : Hid} {H H0 : Hp} {env0 e e1 : Env} {o : Out} {v : V} {r : RV} (R : Rep G A σ H e) (F0 : Fr (Own σ env0) A0 H0 (Own σ e) A H) (ok : OutOk G H0 A σ H e o v) (h : rsl o e = some (r, e1)) :
    ∃ A1, Rep G A1 σ H e1 ∧ Fr (Own σ env0) A0 H0 (Own σ e1) A1 H ∧ OutOk G H0 A1 σ H e1 r.out v ∧ (∀ q, Own σ e1 q → Own σ e q) ∧ (∀ q, A1 q → A q) ∧ ∀ q, A q → ¬ Own σ e q → A1 q := by
  cases o with
  | dat d =>
    cases h
    exact ⟨A, R, F0, ok, fun _ z => z, fun _ z => z, fun _ z _ => z⟩
  | fresh d =>
    cases h
    exact ⟨A, R, F0, ok, fun _ z => z, fun _ z => z, fun _ z _ => z⟩
  | slot i =>
    have h : (match use e (.slot i) with
      | some (.ok d e2) => some (RV.dat d, e2)
      | _ => none) = some (r, e1) := h
    split at h
    · rename_i d e2 hu
      cases h
      have ok : σ[i]? = some (some v) := ok
      unfold use at hu
      simp only at hu
      split at hu
      · rename_i d' h1
        cases hu
        obtain ⟨u, e2, c⟩ := R.cell i _ h1
        rw [ok] at e2
        cases e2
        exact ⟨A, R, F0, c, fun _ z => z, fun _ z => z, fun _ z _ => z⟩
      · rename_i d' h1
        cases hu
        obtain ⟨u, e2, p, e3, a, t⟩ := R.cell i _ h1
        rw [ok] at e2
        cases e2
        subst e3
        obtain ⟨r1, r2, r3⟩ := R.freeze h1 ok
        refine ⟨_, r1, ⟨fun b x hb nb => ⟨(F0.keep b x hb nb).1, ?_⟩, fun q hq => F0.own q (r2 q hq).1, F0.dom⟩, r3, fun q z => (r2 q z).1, fun _ z => z.1, fun q z n => ⟨z, fun w => n ⟨i, d, h1, w ▸ ok⟩⟩⟩
        refine Iff.trans ⟨fun z => z.1, fun z => ⟨z, fun w => ?_⟩⟩ (F0.keep b x hb nb).2
        rcases F0.own b ⟨i, d, h1, w ▸ ok⟩ with q | q
        · exact nb q
        · rw [q] at hb
          cases hb
      · cases hu
    · cases h
/-- an out stays while own things become data -/
theorem OutOk.less {σ : L2.St} {A A1 : Hid} {H H0 : Hp} {e e1 : Env} {o : Out} {v : V} (R : Rep G A σ H e) (ow : ∀ q, Own σ e1 q → Own σ e q) (sub : ∀ q, A1 q → A q) (kp : ∀ q, A q → ¬ Own σ e q → A1 q) (ok : OutOk G H0 A σ H e o v) : OutOk G H0 A1 σ H e1 o v := by
  cases o with
  | dat d => exact RepD.mono (sub_stab sub) R.tup _ _ ok
  | fresh d =>
    obtain ⟨p, e1, e2, a, n, t⟩ := ok
    exact ⟨p, e1, e2, kp p a n, fun z => n (ow p z), t.mono (sub_stab sub) R.tup fun _ z => z⟩
  | slot i => exact ok
theorem rsl_len {e e1 : Env} {o : Out} {r : RV} (h : rsl o e = some (r, e1)) : e1.length = e.length := by
  cases o with
  | dat _ => cases h; rfl
  | fresh _ => cases h; rfl
  | slot i =>
    have h : (match use e (.slot i) with
      | some (.ok d e2) => some (RV.dat d, e2)
      | _ => none) = some (r, e1) := h
    split at h
    · rename_i d e2 hu
      cases h
      exact use_len hu
    · cases h
/-- one cell stored -/
theorem Rep.setRV {σ : L2.St} {A : Hid} {H H0 : Hp} {e : Env} {i : Nat} {r : RV} {v : V} (R : Rep G A σ H e) (hi : i < e.length) (ok : OutOk G H0 A σ H e r.out v) :
    Rep G A (σ.set i (some v)) H (e.set i (some r.cell)) ∧ ∀ q, Own (σ.set i (some v)) (e.set i (some r.cell)) q → Own σ e q ∨ (v = .ref q ∧ H0 q = none) := by
  cases r with
  | dat d =>
    obtain ⟨R1, o1⟩ := R.setDat hi ok
    exact ⟨R1, fun q z => .inl (o1 q z)⟩
  | fresh d =>
    obtain ⟨p, rfl, e2, a, n, t⟩ := ok
    obtain ⟨R1, o1⟩ := R.setOwn hi a n t
    refine ⟨R1, fun q z => ?_⟩
    rcases o1 q z with w | w
    · exact .inl w
    · subst w
      exact .inr ⟨rfl, e2⟩
theorem es_par {i j : Nat} {x y : Str} {a b : Expr} {px py pt pos : Pos} {kt k2 : Nat} {pt2 : Pos} {f g : EF} (hc : X.calm = true) (hN : X.N.Nodup) (hi : X.N[i]? = some x) (hj : X.N[j]? = some y) (hij : i ≠ j)
    (hx : X.env.scope.names.lookup x = some .local) (hy : X.env.scope.names.lookup y = some .local) (ha : PE X a (tEv G XR W f)) (hb : PE X b (tEv G XR W g))
    (hw : swappedStores [.Tuple [.Name x px, .Name y py] kt pt] (.Tuple [a, b] k2 pt2) X.env = pure (some [x, y]))
    (hs : swapsWithSole [.Tuple [.Name x px, .Name y py] kt pt] (.Tuple [a, b] k2 pt2) pos.line X.env = pure false := by rfl) (hs1 : starEach [a, b] X.env = (false, eval a X.env) :: starEach [b] X.env := by rfl) (hs2 : starEach [b] X.env = [(false, eval b X.env)] := by rfl) :
    PS X (.Assign [.Tuple [.Name x px, .Name y py] kt pt] (.Tuple [a, b] k2 pt2) pos) (tEx G XR W fx (sPar fx i j f g)) :=
  PS_imp (ps_par hc hN hi hj hij hx hy (pa_cons ha (pa_cons hb pa_nil hs2) hs1) hw hs) fun D σ H ⟨A, env, R, p⟩ => by
    unfold sPar at p
    refine ⟨A, env, R, ?_⟩
    cases hf : f env with
    | none =>
      rw [hf] at p
      exact p
    | some r =>
      rw [hf] at p
      cases r with
      | ex x e1 => exact fun A1 H1 c d R1 F1 xr => p σ A1 H1 c d R1 (Keep.refl _ _) F1 xr
      | ok o1 e1 =>
        rw [bd_ok] at p
        intro A1 H1 R1 F1 v1 ok1
        refine ⟨A1, e1, R1, ?_⟩
        cases hg : g e1 with
        | none =>
          rw [hg] at p
          exact p
        | some r2 =>
          rw [hg] at p
          cases r2 with
          | ex x e2 => exact fun A2 H2 c d R2 F2 xr => p σ A2 H2 c d R2 (Keep.refl _ _) (F1.trans F2) xr
          | ok o2 e2 =>
            rw [bd_ok] at p
            intro A2 H2 R2 F2 v2 ok2
            refine ⟨v1, v2, rfl, ?_⟩
            have ok1' := ok1.mono R1 F2
            -- two new things are two
            have apart : ∀ d1 d2, o1 = .fresh d1 → o2 = .fresh d2 → v1 ≠ v2 := fun d1 d2 q1 q2 z => by
              subst q1 q2
              obtain ⟨p1, w1, _, a1, _, _⟩ := ok1
              obtain ⟨p2, w2, n2, _⟩ := ok2
              rw [w1, w2] at z
              cases z
              obtain ⟨o, eo, _⟩ := R1.tup p1 a1
              rw [n2] at eo
              cases eo
            have ok2' : OutOk G H A2 σ H2 e2 o2 v2 := ok2.base fun p h => F1.none h
            unfold parK at p
            split at p
            · rename_i r1 e3 h3
              obtain ⟨A3, R3, F3, k3, w3, s3, kp3⟩ := rsl_ok R2 (F1.trans F2) ok1' h3
              split at p
              · rename_i r2 e4 h4
                obtain ⟨A4, R4, F4, k4, w4, s4, kp4⟩ := rsl_ok R3 F3 (ok2'.less R2 w3 s3 kp3) h4
                have k3' := k3.less R3 w4 s4 kp4
                split at p
                · exact p.elim
                · rename_i hcond
                  have c1 : i ∉ fx := fun z => hcond (.inl z)
                  have c2 : j ∉ fx := fun z => hcond (.inr (.inl z))
                  have c3 : i < e4.length := Nat.lt_of_not_le fun z => hcond (.inr (.inr (.inl z)))
                  have c4 : j < e4.length := Nat.lt_of_not_le fun z => hcond (.inr (.inr (.inr (.inl z))))
                  obtain ⟨R5, w5⟩ := R4.setRV c3 k3'
                  have k5 : OutOk G H A4 (σ.set i (some v1)) H2 (e4.set i (some r1.cell)) r2.out v2 := by
                    cases r2 with
                    | dat d => exact k4
                    | fresh d =>
                      obtain ⟨q, z1, z2, z3, z4, z5⟩ := k4
                      refine ⟨q, z1, z2, z3, fun z => ?_, z5⟩
                      rcases w5 q z with w | ⟨w, _⟩
                      · exact z4 w
                      · have hv : v1 = v2 := w.trans z1.symm
                        cases r1 with
                        | dat d1 =>
                          have z6 : RepD G A4 H2 d1 (.ref q) := by
                            rw [← z1, ← hv]
                            exact k3'
                          -- a dat cell makes no own thing
                          obtain ⟨R6, w6⟩ := R4.setDat c3 (i := i) (v := v1) k3'
                          exact z4 (w6 q z)
                        | fresh d1 =>
                          have q1 : o1 = .fresh d1 := by
                            cases o1 with
                            | dat _ => cases h3
                            | fresh _ => cases h3; rfl
                            | slot m =>
                              have h3 : (match use e2 (.slot m) with
                                | some (.ok d e2) => some (RV.dat d, e2)
                                | _ => none) = some (RV.fresh d1, e3) := h3
                              split at h3 <;> cases h3
                          have q2 : o2 = .fresh d := by
                            cases o2 with
                            | dat _ => cases h4
                            | fresh _ => cases h4; rfl
                            | slot m =>
                              have h4 : (match use e3 (.slot m) with
                                | some (.ok d e2) => some (RV.dat d, e2)
                                | _ => none) = some (RV.fresh d, e4) := h4
                              split at h4 <;> cases h4
                          exact apart d1 d q1 q2 hv
                  obtain ⟨R6, w6⟩ := R5.setRV (by rw [List.length_set]; exact c4) k5
                  refine p _ A4 H2 R6 ?_ (F4.less fun q z => ?_)
                  · exact (keep_set c1).trans (keep_set c2)
                  · rcases w6 q z with w | ⟨_, w⟩
                    · rcases w5 q w with w' | ⟨_, w'⟩
                      · exact .inl w'
                      · exact .inr w'
                    · exact .inr w
              · exact p.elim
            · exact p.elim
end
end Tk
/-! Tk10: the facts of a body's context; of a callee; chains. -/
namespace Tk
open PySem PySem.Spec PyProof.Rows L2

/-- what a body's derivation leans on -/
structure Bx (G : Tb) (W : WX) (k : Nat) (X : Cx) : Prop where
  calm : X.calm = true
  kk : X.K = G.K
  nd : X.N.Nodup
  room : Room k X.A
  gu : X.A.guards = some []
  tk : Takes X W
  po : PassesOwn (model X.prog X.w) X.A X.env X.xe
theorem Bx.un {G : Tb} {W : WX} {k : Nat} {X : Cx} (B : Bx G W k X) : X.A.units + 150 < cLine := by
  have := B.room.un
  omega
theorem Bx.un64 {G : Tb} {W : WX} {k : Nat} {X : Cx} (B : Bx G W k X) : X.A.units + 64 < cLine := by
  have := B.room.un
  omega
theorem Bx.un65 {G : Tb} {W : WX} {k : Nat} {X : Cx} (B : Bx G W k X) : X.A.units + 65 < cLine := by
  have := B.room.un
  omega
theorem takesF {X : Cx} : Takes X W0 := fun _ _ x => by
  obtain ⟨_, _, _, _, _, _, _, _, _, _, _, _, _, _, _, _, z⟩ := x
  exact z.elim
theorem Bx.blk {G : Tb} {W : WX} {k : Nat} {X : Cx} (B : Bx G W k X) (s : Shared) (H : Hp) (scope : Scope) (cenv : PySem.Env) (fp : List Addr) : Bx G W0 k (X.blk s H scope cenv fp) :=
  ⟨B.calm, B.kk, B.nd, B.room, B.gu, takesF, PassesOwn.never⟩
theorem Bx.of {K : PySem.W.Frag} {G : Tb} (hG : G.K = K) {P : Program} {w : World} {mg : Str → Option Value} {base : Heap} {N : List Str} {qual : Str} {sc : Scope} {f : Addr} {cdv : Value} {A : Around} {outer : List PySem.Env} {s : Shared} {H : Hp} {E : XK} {k : Nat} (nd : N.Nodup)
    (hr : Room k (A.deeper (envOfC qual sc s.heap.objs.size f cdv))) (hg : A.guards = some []) : Bx G (fun c d _ H => E c d H) k (cxOf (L2.CX P w) P w K mg base N qual sc f cdv A outer s H E) :=
  ⟨rfl, hG.symm, nd, hr, hg, takes_of rfl rfl rfl rfl, passes_of rfl⟩

/-- a def as its callers see it -/
structure FnI (P : Program) (w : World) (K : PySem.W.Frag) (mg : Str → Option Value) (base : Heap) (nm : Str) (k : Nat) (ps : List Str) (sp : Sp) (f : Addr) (fd : FuncData) : Prop where
  fn : FnG P w K mg base k f fd ps sp
  mg : mg nm = some (.ref f)
  kp : PySem.W.keepIn K (.ref f) = true
  bd : Binds K fd ps []

section
variable {G : Tb} {XR : XW} {W : WX} {X : Cx} {fx : List Nat}
/-- a < b < c -/
def chK (F F' : D → D → Option RV) (h : EF) (o o' : Out) (e : Env) : Option (Rs Bool) := bd (fin2 F e o o') fun z e1 => match z with
  | .dat (.bl true) => bd (h e1) fun o2 e2 => bd (fin2 F' e2 o' o2) fun z2 e3 => match z2 with
    | .dat (.bl b) => some (.ok b e3)
    | _ => none
  | .dat (.bl false) => some (.ok false e1)
  | _ => none
def tChainF (F F' : D → D → Option RV) (f g h : EF) : TF := fun env => bd (f env) fun o e => bd (g e) fun o' e' => chK F F' h o o' e'
theorem fin2_eq {F : D → D → Option RV} {e e1 : Env} {o o' z : Out} (h : fin2 F e o o' = some (.ok z e1)) : ∃ d d' rv, peek e o = some d ∧ peek e o' = some d' ∧ F d d' = some rv ∧ z = rv.out ∧ e = e1 := by
  unfold fin2 at h
  split at h
  · rename_i d d' hd hd'
    split at h
    · rename_i rv hr
      cases h
      exact ⟨d, d', rv, hd, hd', hr, rfl, rfl⟩
    · cases h
  · cases h
theorem fin2_no {F : D → D → Option RV} {e e1 : Env} {o o' : Out} {x : Exc} (h : fin2 F e o o' = some (.ex x e1)) : False := by
  unfold fin2 at h
  split at h
  · split at h <;> cases h
  · cases h
theorem et_chain {a b c : Expr} {op op' : CmpOp} {r r' : R2} {F F' : D → D → Option RV} {f g h : EF} {pos : Pos} (ho : OpR X (compareOp op) r) (hF : Op2 G r F) (ho' : OpR X (compareOp op') r') (hF' : Op2 G r' F') (ha : PE X a (tEv G XR W f)) (hb : PE X b (tEv G XR W g)) (hc : PE X c (tEv G XR W h))
    (T : PT X (.Compare a [op, op'] [b, c] pos) (tTest (tChain r r' (tEv G XR W f) (tEv G XR W g) (tEv G XR W h)))) : PT X (.Compare a [op, op'] [b, c] pos) (tEvT G XR W (tChainF F F' f g h)) := PT_imp T fun σ H Q ⟨A, env, R, p⟩ => by
  refine (ev_seq R p).imp fun x H1 ⟨A1, e1, o1, R1, ok1, F1, p1⟩ => ?_
  refine (ev_seq R1 p1).imp fun y H2 ⟨A2, e2, o2, R2, ok2, F2, p2⟩ => ?_
  have okx := ok1.mono R1 F2
  unfold chK at p2
  cases hq : fin2 F e2 o1 o2 with
  | none =>
    rw [hq] at p2
    exact p2.elim
  | some rr =>
    cases rr with
    | ex x e3 => exact (fin2_no hq).elim
    | ok z e3 =>
      rw [hq, bd_ok] at p2
      obtain ⟨d, d', rv, h1, h2, h3, rfl, rfl⟩ := fin2_eq hq
      refine hF d d' rv A2 H2 x y _ h3 R2.tup (peek_ok R2 okx h1) (peek_ok R2 ok2 h2) fun v A' H' ex ro => ?_
      have R3 := ex.rep R2
      have F3 : Fr (Own σ e2) A2 H2 (Own σ e2) A' H' := ex.fr _
      cases rv with
      | fresh d => exact p2.elim
      | dat d =>
        cases d <;> try (exact p2.elim)
        rename_i k
        have ek : v = .bl k := by
          have ro : RepD G A' H' (.bl k) v := ro
          unfold RepD at ro
          exact ro
        refine ⟨k, ek, ?_⟩
        cases k with
        | false => exact ⟨false, rfl, p2 A' H' R3 F3⟩
        | true =>
          have p3 := Post.imp F3 (K' := fun b _ _ H' => Q b H') (fun _ _ _ _ _ q => q) p2
          refine (ev_seq R3 p3).imp fun w H4 ⟨A4, e4, o4, R4, ok4, F4, p4⟩ => ?_
          have oky : OutOk G _ A4 σ H4 e4 o2 y := (ok2.mono R2 F3).mono R3 F4
          cases hq2 : fin2 F' e4 o2 o4 with
          | none =>
            rw [hq2] at p4
            exact p4.elim
          | some rr =>
            cases rr with
            | ex x e5 => exact (fin2_no hq2).elim
            | ok z e5 =>
              rw [hq2, bd_ok] at p4
              obtain ⟨d, d', rv, h1, h2, h3, rfl, rfl⟩ := fin2_eq hq2
              refine hF' d d' rv A4 H4 y w _ h3 R4.tup (peek_ok R4 oky h1) (peek_ok R4 ok4 h2) fun v A' H' ex ro => ?_
              cases rv with
              | fresh d => exact p4.elim
              | dat d =>
                cases d <;> try (exact p4.elim)
                rename_i k
                have ek : v = .bl k := by
                  have ro : RepD G A' H' (.bl k) v := ro
                  unfold RepD at ro
                  exact ro
                exact ⟨k, ek, p4 A' H' (ex.rep R4) (ex.fr _)⟩
/-! ### x += e -/
def sAug (fx : List Nat) (i : Nat) (F : D → D → Option RV) (f : EF) : SF := fun env => match (env[i]? : Option (Option Cell)) with
  | some (some _) => bd (f env) fun o e => bd (fin2 F e (.slot i) o) fun z e1 => setK fx i z e1
  | _ => none
def fIAdd : D → D → Option RV
  | .int i, .int j => some (.dat (.int (i + j)))
  | .str a, .str b => if szOk (a.length + b.length) = true then some (.dat (.str (a ++ b))) else none
  | _, _ => none
def rIAdd : R2 := fun x y H Q => (∃ i j, x = .int i ∧ y = .int j ∧ Q (.int (i + j)) H) ∨ ∃ i j, x = .str i ∧ y = .str j ∧ i.length + j.length ≤ sizeLine ∧ Q (.str (i ++ j)) H
theorem op_iadd : OpR X (inplaceOp .Add) rIAdd := iop_add.or iop_add_str
theorem o_iadd : Op2 G rIAdd fIAdd := fun d d' rv A H x y Q e t h1 h2 q => by
  cases d <;> cases d' <;> try (cases e; done)
  · cases e
    exact .inl ⟨_, _, t_int h1, t_int h2, q _ A H (Ext.refl t) rvI⟩
  · rename_i a b
    have e : (if szOk (a.length + b.length) = true then some (RV.dat (.str (a ++ b))) else none) = some rv := e
    split at e
    · rename_i hz
      cases e
      exact .inr ⟨_, _, t_str h1, t_str h2, szOk.le hz, q _ A H (Ext.refl t) rvS⟩
    · cases e
theorem es_aug {i : Nat} {x : Str} {e : Expr} {f : EF} {pos pos' : Pos} (hN : X.N.Nodup) (hi : X.N[i]? = some x) (hx : Loc X.env.scope x) (he : PE X e (tEv G XR W f)) (hf : X.fn x = true ∨ X.env.scope.names.lookup x = some .local := by first | exact .inl rfl | exact .inr rfl | assumption) :
    PS X (.AugAssign (.Name x pos') .Add e pos) (tEx G XR W fx (sAug fx i fIAdd f)) := PS_imp (ps_aug hN hi hx he op_iadd hf) fun D σ H ⟨A, env, R, p⟩ => by
  unfold sAug at p
  split at p
  · rename_i c h0
    obtain ⟨v, e0, _⟩ := R.cell i c h0
    refine ⟨v, e0, A, env, R, ?_⟩
    cases hf : f env with
    | none =>
      rw [hf] at p
      exact p
    | some r =>
      rw [hf] at p
      cases r with
      | ex x e1 => exact fun A1 H1 c d R1 F1 xr => p σ A1 H1 c d R1 (Keep.refl _ _) F1 xr
      | ok o e1 =>
        intro A1 H1 R1 F1 y ok
        rw [bd_ok] at p
        cases hq : fin2 fIAdd e1 (.slot i) o with
        | none =>
          rw [hq] at p
          exact p.elim
        | some rr =>
          cases rr with
          | ex x e3 => exact (fin2_no hq).elim
          | ok z e3 =>
            rw [hq, bd_ok] at p
            obtain ⟨d, d', rv, h1, h2, h3, hz, he⟩ := fin2_eq hq
            subst he
            subst hz
            have okx : OutOk G H A1 σ H1 e1 (.slot i) v := e0
            refine o_iadd d d' rv A1 H1 v y _ h3 R1.tup (peek_ok R1 okx h1) (peek_ok R1 ok h2) fun v2 A' H' ex ro => ?_
            exact set_out (ex.rep R1) (F1.trans (ex.fr _)) (ro.out R1 fun q h => F1.none h) p
  · exact p.elim
end
/-- turns enough for any while here -/
def fuelN : Nat := 2 ^ 4000
theorem while_run {t : TF} {g : SF} (I Q : Env → Prop) (μ : Env → Nat) (h : ∀ env, I env → (t env = some (.ok false env) ∧ Q env) ∨ ∃ e1, t env = some (.ok true env) ∧ g env = some (.ok .next e1) ∧ I e1 ∧ μ e1 < μ env) :
    ∀ (n : Nat) (env : Env), I env → μ env < n → ∃ e', whileG t g n env = some (.ok .next e') ∧ Q e'
  | 0, env, _, hn => absurd hn (Nat.not_lt_zero _)
  | n + 1, env, hi, hn => by
    rcases h env hi with ⟨h1, h2⟩ | ⟨e1, h1, h2, h3, h4⟩
    · refine ⟨env, ?_, h2⟩
      unfold whileG
      rw [h1, bd_ok, if_neg Bool.false_ne_true]
    · obtain ⟨e', h5, h6⟩ := while_run I Q μ h n e1 h3 (by omega)
      refine ⟨e', ?_, h6⟩
      unfold whileG
      rw [h1, bd_ok, if_pos rfl, h2, bd_ok]
      exact h5
theorem for_run {g : GF} {b : SF} (I : Nat → Env → Prop) : ∀ (ds : List D) (k : Nat) (env : Env), (∀ (i : Nat) d env, ds[i]? = some d → I (k + i) env → ∃ e1 e2, g d env = some (.ok () e1) ∧ b e1 = some (.ok .next e2) ∧ I (k + i + 1) e2) → I k env →
    ∃ e', forG g b ds env = some (.ok .next e') ∧ I (k + ds.length) e'
  | [], k, env, _, hi => ⟨env, rfl, hi⟩
  | d :: ds, k, env, h, hi => by
    obtain ⟨e1, e2, h1, h2, h3⟩ := h 0 d env rfl hi
    obtain ⟨e', h5, h6⟩ := for_run I ds (k + 1) e2 (fun i d' env hd hi' => by
      have := h (i + 1) d' env hd (by rw [← Nat.add_assoc, Nat.add_right_comm]; exact hi')
      rw [show k + (i + 1) + 1 = k + 1 + i + 1 by omega] at this
      exact this) h3
    refine ⟨e', ?_, by rw [List.length_cons, ← Nat.add_assoc, Nat.add_right_comm]; exact h6⟩
    unfold forG
    rw [h1, bd_ok, h2, bd_ok]
    exact h5
/-- a comprehension whose turns leave the rest as it is -/
theorem comp_run {vs : List Nat} {g : GF} {t : TF} {f : UF} {E : Env} (E1 : D → Env) (p : D → Bool) (h : D → D) : ∀ (ds acc : List D), (∀ d ∈ ds, g d E = some (.ok () (E1 d)) ∧ (E1 d).length = E.length ∧ t (E1 d) = some (.ok (p d) (E1 d)) ∧ (p d = true → f (E1 d) = some (.ok (h d) (E1 d))) ∧ wipeE (E1 d) vs = E) →
    acc.length + ds.length ≤ 1000000 → compG vs g t f ds acc E = some (.ok (acc ++ (ds.filter p).map h) E)
  | [], acc, _, _ => by
    unfold compG
    simp
  | d :: ds, acc, hh, hl => by
    obtain ⟨h1, h2, h3, h4, h5⟩ := hh d List.mem_cons_self
    rw [List.length_cons] at hl
    unfold compG
    rw [h1, bd_ok, if_pos h2, h3, bd_ok]
    cases hp : p d with
    | false =>
      rw [if_neg Bool.false_ne_true, h5, comp_run E1 p h ds acc (fun d' hd => hh d' (List.mem_cons_of_mem _ hd)) (by omega)]
      simp [hp]
    | true =>
      rw [if_pos rfl, h4 hp, bd_ok, if_pos (show szOk acc.length = true from decide_eq_true (by omega)), h5, comp_run E1 p h ds (acc ++ [h d]) (fun d' hd => hh d' (List.mem_cons_of_mem _ hd)) (by simp; omega)]
      simp [hp]
end Tk
/-! Tk11: what is never reached; in, all, any, list, tuple, texts in order, dict displays. -/
namespace Tk
open PySem PySem.Spec PyProof.Rows L2

section
variable {G : Tb} {XR : XW} {W : WX} {X : Cx} {fx : List Nat}

/-! ### no promise -/
def cBot : EF := fun _ => none
def sBot : SF := fun _ => none
theorem ev_bot {e : Expr} : PE X e (tEv G XR W cBot) := ⟨fun pins s σ H Q I ⟨A, env, R, p⟩ => p.elim⟩
theorem es_bot {s : Stmt} : PS X s (tEx G XR W fx sBot) := ⟨fun pins s σ H D I ⟨A, env, R, p⟩ => p.elim⟩

/-! ### in -/
def oneSign : D → Option Nat
  | .str x => match x.cps.toList with
    | [c] => some c
    | _ => none
  | _ => none
theorem oneSign_of {d : D} {c : Nat} (h : oneSign d = some c) : d = .str ⟨#[c]⟩ := by
  cases d <;> try (cases h; done)
  rename_i x
  obtain ⟨⟨l⟩⟩ := x
  unfold oneSign at h
  simp only at h
  split at h
  · cases h
    rfl
  · cases h
def flatD : D → Bool
  | .non => true
  | .bl _ => true
  | .int _ => true
  | .str _ => true
  | _ => false
def flD : D → V
  | .non => .non
  | .bl b => .bl b
  | .int i => .int i
  | .str x => .str x
  | _ => .non
theorem flat_v {A : Hid} {H : Hp} {d : D} {v : V} (f : flatD d = true) (h : RepT G A H d v) : v = flD d ∧ flatV v = true := by
  cases d <;> try (cases f; done)
  · cases t_non h
    exact ⟨rfl, rfl⟩
  · cases t_bl h
    exact ⟨rfl, rfl⟩
  · cases t_int h
    exact ⟨rfl, rfl⟩
  · cases t_str h
    exact ⟨rfl, rfl⟩
theorem flats_v {A : Hid} {H : Hp} : ∀ {l : List D} {vs : List V}, l.all flatD = true → RepDs G A H l vs → vs = l.map flD ∧ vs.all flatV = true
  | [], _, _, h => by
    obtain rfl := h.inv0
    exact ⟨rfl, rfl⟩
  | d :: l, _, f, h => by
    obtain ⟨v, r, rfl, h1, h2⟩ := h.inv
    rw [List.all_cons, Bool.and_eq_true] at f
    obtain ⟨e1, e2⟩ := flat_v f.1 (.inl h1)
    obtain ⟨e3, e4⟩ := flats_v f.2 h2
    subst e1 e3
    exact ⟨rfl, by rw [List.all_cons, e2, e4]; rfl⟩
/-- what stands in d: its parts -/
def partsD : D → Option (List D)
  | .tup l => some l
  | .lst l => some l
  | _ => none
def fInS (neg : Bool) (d e : D) : Option RV := match oneSign d, e with
  | some c, .str z => some (.dat (.bl (neg ^^ decide (c ∈ z.cps.toList))))
  | _, _ => none
def fInF (neg : Bool) (d e : D) : Option RV := match partsD e with
  | some l => if flatD d = true ∧ l.all flatD = true then some (.dat (.bl (neg ^^ inV (flD d) (l.map flD)))) else none
  | none => none
def fInD (neg : Bool) (d e : D) : Option RV := match toPy d, e, toPy e with
  | some p, .lst _, some (.list ps) => if SeqAt.shaped p = true ∧ SeqAt.shaped (.list ps) = true then some (.dat (.bl (neg ^^ ps.any fun z => PyData.eqv z p))) else none
  | _, _, _ => none
theorem fInS_of {neg : Bool} {d e : D} {rv : RV} (h : fInS neg d e = some rv) : ∃ c z, d = .str ⟨#[c]⟩ ∧ e = .str z ∧ rv = .dat (.bl (neg ^^ decide (c ∈ z.cps.toList))) := by
  unfold fInS at h
  cases hc : oneSign d with
  | none =>
    rw [hc] at h
    cases h
  | some c =>
    rw [hc] at h
    cases e <;> try (cases h; done)
    cases h
    exact ⟨c, _, oneSign_of hc, rfl, rfl⟩
theorem fInD_of {neg : Bool} {d e : D} {rv : RV} (h : fInD neg d e = some rv) : ∃ p ps, toPy d = some p ∧ toPy e = some (.list ps) ∧ SeqAt.shaped p = true ∧ SeqAt.shaped (.list ps) = true ∧ rv = .dat (.bl (neg ^^ ps.any fun z => PyData.eqv z p)) := by
  unfold fInD at h
  split at h
  · rename_i h1 h2
    split at h
    · rename_i hs
      cases h
      exact ⟨_, _, h1, h2, hs.1, hs.2, rfl⟩
    · cases h
  · cases h
def orE {α : Type} (a b : Option α) : Option α := match a with
  | some x => some x
  | none => b
def fIn (neg : Bool) (d e : D) : Option RV := orE (fInS neg d e) (orE (fInF neg d e) (fInD neg d e))
def rInAll (K : PySem.W.Frag) : R2 := fun x y H Q => (∃ (c : Nat) (z : Str), x = .str ⟨#[c]⟩ ∧ y = .str z ∧ Q (.bl (decide (c ∈ z.cps.toList))) H) ∨ rIn K false x y H Q ∨ rInD K x y H Q
def rNotInAll (K : PySem.W.Frag) : R2 := fun x y H Q => (∃ (c : Nat) (z : Str), x = .str ⟨#[c]⟩ ∧ y = .str z ∧ Q (.bl (!decide (c ∈ z.cps.toList))) H) ∨ rIn K true x y H Q ∨ rNotInD K x y H Q
theorem op_inAll (hu : X.A.units + 65 < cLine) : OpR X (compareOp .In) (rInAll X.K) := op_in_sign.or (op_in_seq.or (op_inD hu))
theorem op_notInAll (hu : X.A.units + 65 < cLine) : OpR X (compareOp .NotIn) (rNotInAll X.K) := op_notIn_sign.or (op_notIn_seq.or (op_notInD hu))
theorem orE_cases {α : Type} {a b : Option α} {x : α} (h : orE a b = some x) : a = some x ∨ b = some x := by
  cases a with
  | none => exact .inr h
  | some y => exact .inl h
theorem parts_v {A : Hid} {H : Hp} {e : D} {l : List D} {y : V} (h : partsD e = some l) (r : RepT G A H e y) : ∃ p vs, y = .ref p ∧ (SqL G.K H p vs ∨ SqT G.K H p vs) ∧ RepDs G A H l vs := by
  cases e <;> try (cases h; done)
  · cases h
    obtain ⟨a, vs, e1, s, r⟩ := t_tup r
    exact ⟨a, vs, e1, .inr s, r⟩
  · cases h
    obtain ⟨a, vs, e1, s, r⟩ := t_lst r
    exact ⟨a, vs, e1, .inl (SqL.of s), r⟩
theorem o_in : Op2 G (rInAll G.K) (fIn false) := fun d d' rv A H x y Q e t h1 h2 q => by
  rcases orE_cases e with e | e
  · obtain ⟨c, z, rfl, rfl, rfl⟩ := fInS_of e
    exact .inl ⟨c, z, t_str h1, t_str h2, q _ A H (Ext.refl t) (by rw [Bool.false_xor]; exact rvB)⟩
  rcases orE_cases e with e | e
  · unfold fInF at e
    split at e
    · rename_i l hl
      split at e
      · rename_i hf
        cases e
        obtain ⟨p, vs, e1, s, r⟩ := parts_v hl h2
        obtain ⟨f1, f2⟩ := flat_v hf.1 h1
        obtain ⟨f3, f4⟩ := flats_v hf.2 r
        subst f3
        refine .inr (.inl ⟨p, _, e1, s, f2, f4, q _ A H (Ext.refl t) ?_⟩)
        rw [Bool.false_xor, f1]
        exact rvB
      · cases e
    · cases e
  · obtain ⟨p, ps, hp, hps, s1, s2, rfl⟩ := fInD_of e
    exact .inr (.inr ⟨p, ps, dp_t hp h1, dp_t hps h2, s1, s2, q _ A H (Ext.refl t) (by rw [Bool.false_xor]; exact rvB)⟩)
theorem o_notIn : Op2 G (rNotInAll G.K) (fIn true) := fun d d' rv A H x y Q e t h1 h2 q => by
  rcases orE_cases e with e | e
  · obtain ⟨c, z, rfl, rfl, rfl⟩ := fInS_of e
    exact .inl ⟨c, z, t_str h1, t_str h2, q _ A H (Ext.refl t) (by rw [Bool.true_xor]; exact rvB)⟩
  rcases orE_cases e with e | e
  · unfold fInF at e
    split at e
    · rename_i l hl
      split at e
      · rename_i hf
        cases e
        obtain ⟨p, vs, e1, s, r⟩ := parts_v hl h2
        obtain ⟨f1, f2⟩ := flat_v hf.1 h1
        obtain ⟨f3, f4⟩ := flats_v hf.2 r
        subst f3
        refine .inr (.inl ⟨p, _, e1, s, f2, f4, q _ A H (Ext.refl t) ?_⟩)
        rw [Bool.true_xor, f1]
        exact rvB
      · cases e
    · cases e
  · obtain ⟨p, ps, hp, hps, s1, s2, rfl⟩ := fInD_of e
    exact .inr (.inr ⟨p, ps, dp_t hp h1, dp_t hps h2, s1, s2, q _ A H (Ext.refl t) (by rw [Bool.true_xor]; exact rvB)⟩)

/-! ### all, any -/
def blOf : D → Option Bool
  | .bl b => some b
  | _ => none
def blsOf : List D → Option (List Bool)
  | [] => some []
  | d :: l => match blOf d, blsOf l with
    | some b, some r => some (b :: r)
    | _, _ => none
theorem bls_v {A : Hid} {H : Hp} : ∀ {l : List D} {bs : List Bool} {vs : List V}, blsOf l = some bs → RepDs G A H l vs → vs = bs.map V.bl
  | [], _, _, e, h => by
    obtain rfl := h.inv0
    cases e
    rfl
  | d :: l, _, _, e, h => by
    obtain ⟨v, r, rfl, h1, h2⟩ := h.inv
    unfold blsOf at e
    split at e
    · rename_i b bs hb hr
      cases e
      cases d <;> try (cases hb; done)
      cases hb
      cases t_bl (.inl h1)
      rw [bls_v hr h2]
      rfl
    · cases e
def fAll : D → Option RV
  | .lst l => (blsOf l).map fun bs => .dat (.bl (bs.all id))
  | _ => none
def fAny : D → Option RV
  | .lst l => (blsOf l).map fun bs => .dat (.bl (bs.any id))
  | _ => none
theorem o_all : Cb1 G (rAll G.K) fAll := fun d rv A H x Q e t h q => by
  cases d <;> try (cases e; done)
  rename_i l
  have e : ((blsOf l).map fun bs => RV.dat (.bl (bs.all id))) = some rv := e
  cases hb : blsOf l with
  | none =>
    rw [hb] at e
    cases e
  | some bs =>
    rw [hb] at e
    cases e
    obtain ⟨a, vs, e1, s, r⟩ := t_lst h
    cases bls_v hb r
    exact ⟨a, bs, by rw [e1], SqL.of s, q _ A H (Ext.refl t) rvB⟩
theorem o_any : Cb1 G (rAny G.K) fAny := fun d rv A H x Q e t h q => by
  cases d <;> try (cases e; done)
  rename_i l
  have e : ((blsOf l).map fun bs => RV.dat (.bl (bs.any id))) = some rv := e
  cases hb : blsOf l with
  | none =>
    rw [hb] at e
    cases e
  | some bs =>
    rw [hb] at e
    cases e
    obtain ⟨a, vs, e1, s, r⟩ := t_lst h
    cases bls_v hb r
    exact ⟨a, bs, by rw [e1], SqL.of s, q _ A H (Ext.refl t) rvB⟩

/-! ### list, tuple -/
def fList : D → Option RV
  | .lst l => some (.fresh (.lst l))
  | .tup l => some (.fresh (.lst l))
  | _ => none
def fTuple : D → Option RV
  | .lst l => some (.dat (.tup l))
  | .tup l => some (.dat (.tup l))
  | _ => none
theorem o_list : Cb1 G (fun xs H Q => ∃ p ys, xs = [.ref p] ∧ (SqL G.K H p ys ∨ SqT G.K H p ys) ∧ ∀ l, H l = none → Q (.ref l) (upd H l (.lst ys))) fList := fun d rv A H x Q e t h q => by
  cases d <;> try (cases e; done)
  · cases e
    obtain ⟨a, vs, e1, s, r⟩ := t_tup h
    exact ⟨a, vs, by rw [e1], .inr s, fun l n => q _ _ _ (Ext.newLst t n vs) (rv_lst t r n)⟩
  · cases e
    obtain ⟨a, vs, e1, s, r⟩ := t_lst h
    exact ⟨a, vs, by rw [e1], .inl (SqL.of s), fun l n => q _ _ _ (Ext.newLst t n vs) (rv_lst t r n)⟩
theorem o_tuple : Cb1 G (fun xs H Q => ∃ p ys, xs = [.ref p] ∧ ((SqL G.K H p ys ∧ ∀ l, H l = none → Q (.ref l) (upd H l (.tup ys))) ∨ (SqT G.K H p ys ∧ Q (.ref p) H))) fTuple := fun d rv A H x Q e t h q => by
  cases d <;> try (cases e; done)
  · cases e
    obtain ⟨a, vs, e1, s, r⟩ := t_tup h
    exact ⟨a, vs, by rw [e1], .inr ⟨s, q _ A H (Ext.refl t) (by unfold RvOk RepD; exact ⟨a, vs, rfl, s, r⟩)⟩⟩
  · cases e
    obtain ⟨a, vs, e1, s, r⟩ := t_lst h
    exact ⟨a, vs, by rw [e1], .inl ⟨SqL.of s, fun l n => q _ _ _ (Ext.newTup t n _) (rv_tup t r n)⟩⟩

/-! ### texts in order -/
def fCmp (F : D → D → Option RV) (S : Str → Str → Bool) (d e : D) : Option RV := match twoS d e with
  | some (x, y) => some (.dat (.bl (S x y)))
  | none => F d e
theorem o_cmp {r : R2} {F : D → D → Option RV} {S : Str → Str → Bool} (h : Op2 G r F) : Op2 G (fun x y H Q => (∃ i j, x = .str i ∧ y = .str j ∧ Q (.bl (S i j)) H) ∨ r x y H Q) (fCmp F S) := fun d d' rv A H x y Q e t h1 h2 q => by
  unfold fCmp at e
  split at e
  · rename_i sx sy hs
    obtain ⟨rfl, rfl⟩ := twoS_of hs
    cases e
    exact .inl ⟨sx, sy, t_str h1, t_str h2, q _ A H (Ext.refl t) rvB⟩
  · exact .inr (h d d' rv A H x y Q e t h1 h2 q)
abbrev fLtA := fCmp fLt fun i j => decide (i.cps.toList < j.cps.toList)
abbrev fGtA := fCmp fGt fun i j => decide (j.cps.toList < i.cps.toList)
abbrev fLeA := fCmp fLe fun i j => !decide (j.cps.toList < i.cps.toList)
abbrev fGeA := fCmp fGe fun i j => !decide (i.cps.toList < j.cps.toList)
abbrev rCmp (S : Str → Str → Bool) (r : R2) : R2 := fun x y H Q => (∃ i j, x = .str i ∧ y = .str j ∧ Q (.bl (S i j)) H) ∨ r x y H Q
theorem o_ltA : Op2 G (rCmp (fun i j => decide (i.cps.toList < j.cps.toList)) (rI0 fun i j => .bl (decide (i < j)))) fLtA := o_cmp o_lt
theorem o_gtA : Op2 G (rCmp (fun i j => decide (j.cps.toList < i.cps.toList)) (rI0 fun i j => .bl (decide (j < i)))) fGtA := o_cmp o_gt
theorem o_leA : Op2 G (rCmp (fun i j => !decide (j.cps.toList < i.cps.toList)) (rI0 fun i j => .bl (decide (i ≤ j)))) fLeA := o_cmp o_le
theorem o_geA : Op2 G (rCmp (fun i j => !decide (i.cps.toList < j.cps.toList)) (rI0 fun i j => .bl (decide (j ≤ i)))) fGeA := o_cmp o_ge
theorem op_ltA : OpR X (compareOp .Lt) (rCmp (fun i j => decide (i.cps.toList < j.cps.toList)) (rI0 fun i j => .bl (decide (i < j)))) := op_lt_str.or op_lt
theorem op_gtA : OpR X (compareOp .Gt) (rCmp (fun i j => decide (j.cps.toList < i.cps.toList)) (rI0 fun i j => .bl (decide (j < i)))) := op_gt_str.or op_gt
theorem op_leA : OpR X (compareOp .LtE) (rCmp (fun i j => !decide (j.cps.toList < i.cps.toList)) (rI0 fun i j => .bl (decide (i ≤ j)))) := op_le_str.or op_le
theorem op_geA : OpR X (compareOp .GtE) (rCmp (fun i j => !decide (i.cps.toList < j.cps.toList)) (rI0 fun i j => .bl (decide (j ≤ i)))) := op_ge_str.or op_ge

/-! ### {} -/
def cDct0 : EF := fun env => some (.ok (.fresh (.dct [] [])) env)
theorem ev_dct0 {pos : Pos} : PE X (.Dict [] [] pos) (tEv G XR W cDct0) := PE_imp pe_dnewK fun σ H Q ⟨A, env, R, p⟩ => fun l n => by
  have x : Ext A H (fun a => A a ∨ a = l) (upd H l (.dK [])) := Ext.newOwn R.tup n (fun _ z => by cases z) (fun _ _ z => by cases z)
  refine p _ _ (x.rep R) (x.fr _) (.ref l) ⟨l, rfl, n, .inr rfl, ?_, [], upd_same, rfl, .nil⟩
  intro o
  have o2 := R.own_some o
  obtain ⟨z, hz⟩ := o2
  rw [n] at hz
  cases hz
end
end Tk
/-! Tk12: raise, try, isinstance of a caught exception. -/
namespace Tk
open PySem PySem.Spec PyProof.Rows L2

def Tb.at (G : Tb) (z : Option (Addr × Value × Option Addr)) : Tb := { G with exa := z }
section
variable {G : Tb} {z : Option (Addr × Value × Option Addr)} {A : Hid} {H : Hp}
mutual
theorem RepD_at : ∀ (d : D) (v : V), RepD (G.at z) A H d v ↔ RepD G A H d v
  | .non, v => by unfold RepD; exact Iff.rfl
  | .bl _, v => by unfold RepD; exact Iff.rfl
  | .int _, v => by unfold RepD; exact Iff.rfl
  | .str _, v => by unfold RepD; exact Iff.rfl
  | .fn _, v => by unfold RepD; exact Iff.rfl
  | .scr _, v => by unfold RepD; exact Iff.rfl
  | .tup l, v => by
    unfold RepD
    exact exists_congr fun a => exists_congr fun vs => and_congr Iff.rfl (and_congr Iff.rfl (RepDs_at l vs))
  | .lst l, v => by
    unfold RepD
    exact exists_congr fun a => exists_congr fun vs => and_congr Iff.rfl (and_congr Iff.rfl (RepDs_at l vs))
  | .dct ks l, v => by
    unfold RepD
    exact exists_congr fun a => exists_congr fun vs => and_congr Iff.rfl (and_congr Iff.rfl (and_congr Iff.rfl (and_congr Iff.rfl (RepDs_at l vs))))
  | .obj c l, v => by
    unfold RepD
    exact exists_congr fun a => exists_congr fun C => exists_congr fun dx => exists_congr fun ns => exists_congr fun vs => and_congr Iff.rfl (and_congr Iff.rfl (and_congr Iff.rfl (and_congr Iff.rfl (and_congr Iff.rfl (RepDs_at l vs)))))
theorem RepDs_at : ∀ (l : List D) (vs : List V), RepDs (G.at z) A H l vs ↔ RepDs G A H l vs
  | [], vs => by unfold RepDs; exact Iff.rfl
  | d :: l, vs => by
    unfold RepDs
    exact exists_congr fun v => exists_congr fun r => and_congr Iff.rfl (and_congr (RepD_at d v) (RepDs_at l r))
end
theorem RepTop_at (d : D) (p : Addr) : RepTop (G.at z) A H d p ↔ RepTop G A H d p := by
  cases d with
  | lst l => exact exists_congr fun vs => and_congr Iff.rfl (RepDs_at l vs)
  | dct ks l => exact exists_congr fun vs => and_congr Iff.rfl (and_congr Iff.rfl (RepDs_at l vs))
  | obj c l => exact exists_congr fun C => exists_congr fun dx => exists_congr fun ns => exists_congr fun vs => and_congr Iff.rfl (and_congr Iff.rfl (and_congr Iff.rfl (RepDs_at l vs)))
  | _ => exact Iff.rfl
theorem XFs_at (x : Exc) (d : Option Addr) : XFs (G.at z) A H x d ↔ XFs G A H x d := by
  unfold XFs
  exact or_congr Iff.rfl (exists_congr fun C => exists_congr fun ns => exists_congr fun p => exists_congr fun vs => and_congr Iff.rfl (and_congr Iff.rfl (and_congr Iff.rfl (and_congr Iff.rfl (and_congr Iff.rfl (RepDs_at _ vs))))))
end

theorem kit_own {K : PySem.W.Frag} {C c : Addr} {b : Bool} (h1 : PySem.W.isClsIn K c = true) (h2 : PySem.W.typeIn K (.ref c) = some (.type "type")) (h3 : PySem.W.subIn K (.ref C) (.ref c) = some b) (hs : PySem.W.subIn K (.ref C) (.ref C) = some true) : PySem.W.kitOne K (.ref C) (.ref c) = some b := by
  unfold PySem.W.kitOne
  by_cases e : C = c
  · subst e
    rw [hs] at h3
    cases h3
    exact if_pos (beq_self_eq_true _)
  · rw [if_neg (fun z => e (Value.ref.inj (beq_iff_eq.mp z)))]
    have h1' : (PySem.W.clsIn K c).isSome = true := h1
    simp [PySem.W.kitCls, h1', h2, h3]
theorem kit_blt {K : PySem.W.Frag} {C : Addr} {T : String} {b : Bool} (hm : PySem.W.kitMeta T = true) (h3 : PySem.W.subIn K (.ref C) (.type T) = some b) : PySem.W.kitOne K (.ref C) (.type T) = some b := by
  simp [PySem.W.kitOne, PySem.W.kitCls, hm, h3]
theorem exm_own {K : PySem.W.Frag} {C c : Addr} {b : Bool} (hb : PySem.W.subIn K (.ref c) (.type "BaseException") = some true) (h1 : PySem.W.isClsIn K c = true) (h2 : PySem.W.typeIn K (.ref c) = some (.type "type")) (h3 : PySem.W.subIn K (.ref C) (.ref c) = some b) : PySem.W.exmOne K (.ref C) (.ref c) = some b := by
  unfold PySem.W.exmOne
  have hb' : (PySem.W.subIn K (.ref c) (.type "BaseException") == some true) = true := by rw [hb] <;> rfl
  rw [if_pos hb']
  have h1' : (PySem.W.clsIn K c).isSome = true := h1
  simp [PySem.W.kitCls, h1', h2, h3]
theorem vals_cls : ∀ (as : List Addr) {us : List Value}, Vals (as.map V.ref) us → us = as.map Value.ref
  | [], us, h => by
    cases h
    rfl
  | a :: as, us, h => by
    cases h with
    | cons h1 h2 =>
      rw [vals_cls as h2, show _ = Value.ref a from h1]
      rfl
section
variable {G : Tb} {W : WX} {X : Cx} {fx : List Nat}

/-! ### raise C('..') -/
def sRaise (k : Nat) : SF := fun env => some (.ex ⟨k, []⟩ env)
theorem es_raise {C : Addr} {bmB : List Value} {B newId initId : String} {x m : Str} {j k : Nat} {p p2 pos pos' : Pos} (hc : X.calm = true) (tk : Takes X W) (F : ExcBaseFacts B newId initId bmB) (q : PySem.W.excIn X.K C bmB newId = true) (gC : X.mg x = some (.ref C)) (kC : PySem.W.keepIn X.K (.ref C) = true) (r : Raises X (.ref C)) (hg : Gl X x)
    (hcl : ∃ ns, G.cls k = some (C, ns)) (hdb : (x == ("__debug__" : Str)) = false := by decide) : PS X (.Raise (some (.Call (.Name x p) [.Constant (.str m) j p2] [] pos)) none pos') (tEx G XRx W fx (sRaise k)) :=
  PS_imp (ps_raise hc tk (pmk_own F q gC kC r hg hdb)) fun D σ H ⟨A, env, R, p⟩ => by
    obtain ⟨ns, hcl⟩ := hcl
    exact p σ A H (.ref C) none R (Keep.refl _ _) (Fr.refl _ _ _) ⟨C, ns, hcl, rfl, .inl ⟨rfl, rfl⟩⟩

/-! ### try -/
def noX : Option Cell → Bool
  | some (.exc _) => false
  | _ => true
def outX (i : Nat) : Fl → Bool
  | .ret (.slot j) => j != i
  | _ => true
def leaveX (i : Nat) : Option (Rs Fl) → Option (Rs Fl)
  | some (.ok fl e) => if outX i fl = true ∧ (e.set i none).all noX = true then some (.ok fl (e.set i none)) else none
  | _ => none
def sTryAs (i : Nat) (m : Nat → Option Bool) (body suite : SF) : SF := fun env => match body env with
  | some (.ex x e) => match m x.cls with
    | some true => match (e[i]? : Option (Option Cell)) with
      | some none => if e.all noX = true then leaveX i (suite (e.set i (some (.exc x)))) else none
      | _ => none
    | some false => some (.ex x e)
    | none => none
  | r => r

theorem get_noX {e : Env} (h : e.all noX = true) {i : Nat} {c : Cell} (k : e[i]? = some (some c)) : noX (some c) = true := List.all_eq_true.mp h _ (List.mem_of_getElem? k)
theorem Fr.lessO {O A O' A' O2 : Hid} {H H' : Hp} (f : Fr O A H O' A' H') (h : ∀ p, O2 p → O' p) : Fr O A H O2 A' H' := ⟨f.keep, fun p q => f.own p (h p q), f.dom⟩
theorem Fr.moreO {O A O' A' O1 : Hid} {H H' : Hp} (f : Fr O A H O' A' H') (h : ∀ p, O p → O1 p) : Fr O1 A H O' A' H' := ⟨fun a o e n => f.keep a o e fun z => n (h a z), fun p q => (f.own p q).imp (h p) id, f.dom⟩
theorem own_clear {σ : L2.St} {e : Env} {i : Nat} {p : Addr} (h : Own (σ.set i none) (e.set i none) p) : Own σ e p := by
  obtain ⟨j, d, k1, k2⟩ := h
  by_cases hj : i = j
  · subst hj
    exfalso
    rw [List.getElem?_set] at k1
    split at k1
    · split at k1 <;> cases k1
    · exact absurd rfl (by assumption)
  · rw [get_set_ne hj] at k1
    rw [List.getElem?_set_ne hj] at k2
    exact ⟨j, d, k1, k2⟩
theorem own_clear' {σ : L2.St} {e : Env} {i : Nat} {p : Addr} (h : Own σ (e.set i none) p) : Own σ e p := by
  obtain ⟨j, d, k1, k2⟩ := h
  by_cases hj : i = j
  · subst hj
    exfalso
    rw [List.getElem?_set] at k1
    split at k1
    · split at k1 <;> cases k1
    · exact absurd rfl (by assumption)
  · rw [get_set_ne hj] at k1
    exact ⟨j, d, k1, k2⟩
/-- into a suite -/
theorem Rep.toX {z : Addr × Value × Option Addr} {σ : L2.St} {A : Hid} {H : Hp} {e : Env} {i : Nat} {x : Exc} {C : Addr} {ns : List Str} (R : Rep G A σ H e) (h0 : e.all noX = true) (hi : e[i]? = some none) (hc : G.cls x.cls = some (C, ns)) (hz : z.2.1 = .ref C) (xf : XFs G A H x z.2.2) :
    Rep (G.at (some z)) A (σ.set i (some (.ref z.1))) H (e.set i (some (.exc x))) := by
  have hl : i < e.length := (List.getElem?_eq_some_iff.mp hi).1
  have hl2 : i < σ.length := by rw [← R.len]; exact hl
  refine ⟨by rw [List.length_set, List.length_set]; exact R.len, R.tup, fun j c k => ?_, fun j1 j2 d1 d2 w k1 k2 k3 k4 => ?_⟩
  · by_cases hj : i = j
    · subst hj
      rw [get_set_self hi] at k
      cases k
      refine ⟨.ref z.1, by rw [List.getElem?_set_self hl2], z.1, C, z.2.2, ns, rfl, ?_, hc, (XFs_at x _).mpr xf⟩
      show some z = some (z.1, .ref C, z.2.2)
      rw [← hz]
    · rw [get_set_ne hj] at k
      obtain ⟨v, e1, c1⟩ := R.cell j c k
      refine ⟨v, by rw [List.getElem?_set_ne hj]; exact e1, ?_⟩
      cases c with
      | dat d => exact (RepD_at d v).mpr c1
      | own d =>
        obtain ⟨p, e2, a, t⟩ := c1
        exact ⟨p, e2, a, (RepTop_at d p).mpr t⟩
      | exc y => exact absurd (get_noX h0 k) Bool.false_ne_true
  · have g : ∀ (j : Nat) (d : D) (w : V), (e.set i (some (.exc x)))[j]? = some (some (Cell.own d)) → (σ.set i (some (.ref z.1)))[j]? = some (some w) → e[j]? = some (some (.own d)) ∧ σ[j]? = some (some w) := fun j d w k k' => by
      by_cases hj : i = j
      · subst hj
        rw [get_set_self hi] at k
        cases k
      · rw [get_set_ne hj] at k
        rw [List.getElem?_set_ne hj] at k'
        exact ⟨k, k'⟩
    exact R.inj j1 j2 d1 d2 w (g _ _ _ k1 k3).1 (g _ _ _ k2 k4).1 (g _ _ _ k1 k3).2 (g _ _ _ k2 k4).2
theorem own_toX {z : V} {σ : L2.St} {e : Env} {i : Nat} {x : Exc} (hi : e[i]? = some none) {p : Addr} (h : Own (σ.set i (some z)) (e.set i (some (.exc x))) p) : Own σ e p := by
  obtain ⟨j, d, k1, k2⟩ := h
  by_cases hj : i = j
  · subst hj
    rw [get_set_self hi] at k1
    cases k1
  · rw [get_set_ne hj] at k1
    rw [List.getElem?_set_ne hj] at k2
    exact ⟨j, d, k1, k2⟩
theorem own_ofX {z : V} {σ : L2.St} {e : Env} {i : Nat} {x : Exc} (hi : e[i]? = some none) {p : Addr} (h : Own σ e p) : Own (σ.set i (some z)) (e.set i (some (.exc x))) p := by
  obtain ⟨j, d, k1, k2⟩ := h
  have hj : i ≠ j := fun q => by
    subst q
    rw [hi] at k1
    cases k1
  exact ⟨j, d, by rw [get_set_ne hj]; exact k1, by rw [List.getElem?_set_ne hj]; exact k2⟩
/-- out of a suite; w: whether the slot is cleared too -/
theorem Rep.ofX {z : Option (Addr × Value × Option Addr)} {σ σ' : L2.St} {A : Hid} {H : Hp} {e : Env} {i : Nat} (R : Rep (G.at z) A σ H e) (h : (e.set i none).all noX = true) (hσ : σ' = σ ∨ σ' = σ.set i none) : Rep G A σ' H (e.set i none) := by
  have hs : ∀ j, i ≠ j → σ'[j]? = σ[j]? := fun j hj => by
    rcases hσ with rfl | rfl
    · rfl
    · rw [List.getElem?_set_ne hj]
  have ne : ∀ (j : Nat) (c : Cell), (e.set i none)[j]? = some (some c) → i ≠ j ∧ e[j]? = some (some c) := fun j c k => by
    by_cases hj : i = j
    · subst hj
      exfalso
      rw [List.getElem?_set] at k
      split at k
      · split at k <;> cases k
      · exact absurd rfl (by assumption)
    · rw [get_set_ne hj] at k
      exact ⟨hj, k⟩
  refine ⟨?_, R.tup, fun j c k => ?_, fun j1 j2 d1 d2 w k1 k2 k3 k4 => ?_⟩
  · rw [List.length_set, R.len]
    rcases hσ with rfl | rfl
    · rfl
    · rw [List.length_set]
  · have nx := get_noX h k
    obtain ⟨hj, k'⟩ := ne j c k
    obtain ⟨v, e1, c1⟩ := R.cell j c k'
    refine ⟨v, by rw [hs j hj]; exact e1, ?_⟩
    cases c with
    | dat d => exact (RepD_at d v).mp c1
    | own d =>
      obtain ⟨p, e2, a, t⟩ := c1
      exact ⟨p, e2, a, (RepTop_at d p).mp t⟩
    | exc y => exact absurd nx Bool.false_ne_true
  · obtain ⟨n1, m1⟩ := ne _ _ k1
    obtain ⟨n2, m2⟩ := ne _ _ k2
    rw [hs _ n1] at k3
    rw [hs _ n2] at k4
    exact R.inj j1 j2 d1 d2 w m1 m2 k3 k4

/-- the context of a try's body, and of a suite -/
theorem Bx.tr {k : Nat} (B : Bx G W k X) {W' : WX} {pn : List (Addr × Obj)} {xe : Value → Shared → Prop} (tk : Takes (X.tr pn xe) W') (po : PassesOwn (model X.prog X.w) X.A X.env xe) : Bx G W' k (X.tr pn xe) := ⟨B.calm, B.kk, B.nd, B.room, B.gu, tk, po⟩
/-- what is left of Bx in a suite -/
structure Bs (G : Tb) (X : Cx) : Prop where
  kk : X.K = G.K
  nd : X.N.Nodup
  un : X.A.units + 150 < cLine
  gu : X.A.guards = some []
theorem Bs.un64 {G : Tb} {X : Cx} (B : Bs G X) : X.A.units + 64 < cLine := by
  have := B.un
  omega
theorem Bs.un65 {G : Tb} {X : Cx} (B : Bs G X) : X.A.units + 65 < cLine := by
  have := B.un
  omega
theorem Bx.suite {k : Nat} (B : Bx G W k X) (a : Addr) (pn : List (Addr × Obj)) (z : Option (Addr × Value × Option Addr)) : Bs (G.at z) (X.suite a pn) := ⟨B.kk, B.nd, B.un, B.gu⟩

theorem es_tryAs {x n : Str} {c : Value} {i k : Nat} {m : Nat → Option Bool} {body suite : List Stmt} {b₀ : Stmt} {np pos pos' : Pos} {f g : SF} (B : Bx G W k X) (hs : X.stack = X.env :: X.outer) (hf : X.env.frame = some X.env.locals) (hi : X.N[i]? = some n) (hln : X.env.kindOf n = some .local) (hc : Names X x c) (hfx : i ∉ fx)
    (hm : ∀ k C ns b, G.cls k = some (C, ns) → m k = some b → PySem.W.exmOne G.K (.ref C) c = some b)
    (hb : ∀ (W' : WX) (pn : List (Addr × Obj)) (xe : Value → Shared → Prop), Takes (X.tr pn xe) W' → PassesOwn (model X.prog X.w) X.A X.env xe → PSs (X.tr pn xe) body (tEx G XRx W' fx f))
    (hsu : ∀ (a : Addr) (oe : Obj) (cls : Value) (d : Option Addr) (pn : List (Addr × Obj)), Zc cls d oe → (∃ vs, oe.data = .fields vs) → PSs (X.suite a ((a, oe) :: pn)) (b₀ :: suite) (tEx (G.at (some (a, cls, d))) XRx W0 fx g)) :
    PS X (.Try body [.ExceptHandler (some (.Name x np)) (some n) (b₀ :: suite) pos'] [] [] pos) (tEx G XRx W fx (sTryAs i m f g)) :=
  PS_imp (ps_try_as (tb := fun W' => tEx G XRx W' fx f) (ts := fun a cls d => tEx (G.at (some (a, cls, d))) XRx W0 fx g) (Wout := W) hs hf B.nd hi hln hc B.tk hb hsu) fun D σ H ⟨A, env, R, p⟩ => by
    refine ⟨A, env, R, ?_⟩
    unfold sTryAs at p
    cases hr : f env with
    | none =>
      rw [hr] at p
      exact p
    | some r =>
      rw [hr] at p
      cases r with
      | ok fl e =>
        cases fl <;> exact p
      | ex y e =>
        intro σ1 A1 H1 c1 d1 R1 K1 F1 xr
        obtain ⟨C, ns, hcl, rfl, xf⟩ := xr
        cases hmy : m y.cls with
        | none =>
          simp only [hmy] at p
          exact p.elim
        | some b =>
          refine ⟨b, by rw [B.kk]; exact hm _ _ _ _ hcl hmy, fun hb1 a na => ?_, fun hb1 => ?_⟩
          · subst hb1
            simp only [hmy] at p
            cases hei : (e[i]? : Option (Option Cell)) with
            | none =>
              simp only [hei] at p
              exact p.elim
            | some ce =>
              cases ce with
              | some _ =>
                simp only [hei] at p
                exact p.elim
              | none =>
                simp only [hei] at p
                by_cases hx : e.all noX = true
                · rw [if_pos hx] at p
                  have R2 := R1.toX (z := (a, .ref C, d1)) hx hei hcl rfl xf
                  refine ⟨A1, e.set i (some (.exc y)), R2, ?_⟩
                  have keep : ∀ {σ2 : L2.St}, Keep fx (σ1.set i (some (.ref a))) σ2 → Keep fx σ (σ2.set i none) ∧ Keep fx σ σ2 := fun {σ2} kk => by
                    refine ⟨fun j hj => ?_, fun j hj => ?_⟩
                    · have hij : i ≠ j := fun q => hfx (q ▸ hj)
                      rw [List.getElem?_set_ne hij, kk j hj, List.getElem?_set_ne hij]
                      exact K1 j hj
                    · have hij : i ≠ j := fun q => hfx (q ▸ hj)
                      rw [kk j hj, List.getElem?_set_ne hij]
                      exact K1 j hj
                  have fr0 : ∀ {σ2 : L2.St} {A2 : Hid} {H2 : Hp} {e2 : Env}, Fr (Own (σ1.set i (some (.ref a))) (e.set i (some (.exc y)))) A1 H1 (Own σ2 e2) A2 H2 → Fr (Own σ env) A H (Own σ2 e2) A2 H2 := fun f2 => F1.trans (f2.moreO fun p q => own_toX hei q)
                  cases hg : g (e.set i (some (.exc y))) with
                  | none =>
                    rw [hg] at p
                    exact p
                  | some r2 =>
                    rw [hg] at p
                    cases r2 with
                    | ex _ _ => exact p.elim
                    | ok fl e2 =>
                      unfold leaveX at p
                      simp only at p
                      by_cases ho : outX i fl = true ∧ (e2.set i none).all noX = true
                      · rw [if_pos ho] at p
                        cases fl with
                        | next => exact fun σ2 A2 H2 R3 K3 F3 => p (σ2.set i none) A2 H2 (R3.ofX ho.2 (.inr rfl)) (keep K3).1 ((fr0 F3).lessO fun q => own_clear)
                        | brk => exact fun σ2 A2 H2 R3 K3 F3 => p (σ2.set i none) A2 H2 (R3.ofX ho.2 (.inr rfl)) (keep K3).1 ((fr0 F3).lessO fun q => own_clear)
                        | cont => exact fun σ2 A2 H2 R3 K3 F3 => p (σ2.set i none) A2 H2 (R3.ofX ho.2 (.inr rfl)) (keep K3).1 ((fr0 F3).lessO fun q => own_clear)
                        | ret o =>
                          intro σ2 A2 H2 v R3 K3 F3 ok
                          refine p σ2 A2 H2 v (R3.ofX ho.2 (.inl rfl)) (keep K3).2 ((fr0 F3).lessO fun q => own_clear') ?_
                          cases o with
                          | dat d => exact (RepD_at d v).mp ok
                          | fresh d =>
                            obtain ⟨q, e4, n4, a4, o4, t4⟩ := ok
                            exact ⟨q, e4, F1.none n4, a4, fun z => o4 (own_clear' z), (RepTop_at d q).mp t4⟩
                          | slot j => exact ok
                      · rw [if_neg ho] at p
                        exact p.elim
                · rw [if_neg hx] at p
                  exact p.elim
          · subst hb1
            simp only [hmy] at p
            exact p σ1 A1 H1 _ d1 R1 K1 F1 ⟨C, ns, hcl, rfl, xf⟩

/-! ### isinstance(e, C), isinstance(e, (C, ..)) -/
def rIsX (K : PySem.W.Frag) (a : Addr) (cls : Value) (d : Option Addr) : List V → Hp → VK → Prop := fun xs H Q => ∃ (c : V) (E : Addr) (b : Bool), xs = [.ref a, c] ∧ cls = .ref E ∧ ExcC K E ∧ (d = none ∨ ∃ p fs, d = some p ∧ H p = some (.xd fs)) ∧
  ((∃ cv, (∀ u, RelV c u → u = cv) ∧ PySem.W.kitOne K (.ref E) cv = some b) ∨ ∃ q vs cvs, c = .ref q ∧ SqT K H q vs ∧ (∀ us, Vals vs us → us = cvs) ∧ PySem.W.kitAny K (.ref E) cvs = some b) ∧ Q (.bl b) H
theorem call_isX {a : Addr} {cls : Value} {d : Option Addr} {oe : Obj} {pn : List (Addr × Obj)} (hz : Zc cls d oe) (hf : ∃ vs, oe.data = .fields vs) : CallR (X.suite a ((a, oe) :: pn)) (.builtin "isinstance") (rIsX X.K a cls d) := by
  intro pins s σ H xs us Q I r h
  obtain ⟨c, E, b, rfl, rfl, ec, hd, hk, q⟩ := h
  obtain ⟨hget, _⟩ := I.pin (a, oe) (List.mem_append.mpr (.inl List.mem_cons_self))
  obtain ⟨fvs, hfv⟩ := hf
  have hno : PySem.W.notCls oe = true := by
    unfold PySem.W.notCls
    rw [hfv]
  have J : ∃ od, PySem.W.InstAt s.heap a oe E od := by
    rcases hd with hd | ⟨p, fs, hd, hp⟩
    · refine ⟨none, hget, hz.1, hno, ?_⟩
      rw [hz.2, hd]
      trivial
    · have ho : ObjOk X.prog X.w H s.heap p (.xd fs) := I.hok p _ hp
      obtain ⟨mA, hns, _⟩ := ho
      obtain ⟨od, hod, _⟩ := lookIn_ns hns
      refine ⟨some od, hget, hz.1, hno, ?_⟩
      rw [hz.2, hd]
      exact hod
  obtain ⟨od, J⟩ := J
  have hcl : (PySem.W.clsIn X.K E).isSome = true := by
    obtain ⟨cd, hcd, _⟩ := PySem.W.any_some ec.hd
    rw [hcd]
    rfl
  have Z := PySem.W.kitx_exc (x := a) (ox := oe) (od := od) hcl ec.hg ec.hk ec.hs ec.ha ec.hn ec.ht ec.hm
  cases r with
  | cons rx r1 =>
    cases r1 with
    | cons rc r2 =>
      cases r2
      cases rx
      rcases hk with ⟨cv, hcv, e⟩ | ⟨t, vs, cvs, rfl, sq, hv, e⟩
      · have ev := hcv _ rc
        subst ev
        exact PySem.W.kia_one Z I.kIn J e (fun z => nomatch z) fun tk => ⟨.bl b, H, I.kept (t' := tk) fun _ _ z => z, rfl, q⟩
      · cases rc
        obtain ⟨its, rv, ⟨o, ho, hc, n, hdat⟩, _⟩ := I.tuple sq
        have ev := hv _ rv
        subst ev
        obtain ⟨oc, od', oda, osl⟩ := o
        dsimp only at hc hdat
        subst hc hdat
        exact PySem.W.kia_tup Z I.kIn J ho e (fun z => nomatch z) fun tk => ⟨.bl b, H, I.kept (t' := tk) fun _ _ z => z, rfl, q⟩
def cIsE (i : Nat) (m : Nat → Option Bool) : EF := fun env => match (env[i]? : Option (Option Cell)) with
  | some (some (.exc x)) => match m x.cls with
    | some b => some (.ok (.dat (.bl b)) env)
    | none => none
  | _ => none
theorem xfs_d {A : Hid} {H : Hp} {x : Exc} {d : Option Addr} (h : XFs G A H x d) : d = none ∨ ∃ p fs, d = some p ∧ H p = some (.xd fs) := by
  rcases h with ⟨_, h⟩ | ⟨_, _, p, _, h, _, _, hp, _⟩
  · exact .inl h
  · exact .inr ⟨p, _, h, hp⟩
section
variable {a : Addr} {cls : Value} {d : Option Addr} {oe : Obj} {pn : List (Addr × Obj)} {i : Nat} {m : Nat → Option Bool} {e0 ce : Expr} {p pos : Pos}
theorem ev_isE {cv : V} {cu : Value} (hk : X.K = G.K) (hz : Zc cls d oe) (hf : ∃ vs, oe.data = .fields vs) (hX : ∀ k C ns, G.cls k = some (C, ns) → ExcC G.K C) (hg : Gl X "isinstance") (hmi : X.mg "isinstance" = none) (hv : bootBuiltins "isinstance" = some (.builtin "isinstance"))
    (hn : PE (X.suite a ((a, oe) :: pn)) e0 (tVar i)) (hce : PE (X.suite a ((a, oe) :: pn)) ce (tC cv)) (hcv : ∀ u, RelV cv u → u = cu) (hm : ∀ k C ns b, G.cls k = some (C, ns) → m k = some b → PySem.W.kitOne G.K (.ref C) cu = some b)
    (h1 : starEach [e0, ce] X.env = (false, eval e0 X.env) :: starEach [ce] X.env := by rfl) (h2 : starEach [ce] X.env = (false, eval ce X.env) :: starEach [] X.env := by rfl) :
    PE (X.suite a ((a, oe) :: pn)) (.Call (.Name "isinstance" p) [e0, ce] [] pos) (tEv (G.at (some (a, cls, d))) XRx W (cIsE i m)) :=
  PE_imp (pe_callB (call_isX hz hf) hg hmi hv (pa_cons hn (pa_cons hce pa_nil h2) h1) (by decide) (by decide) h1 (by show (backTo pos (starEach [ce] X.env)).any (·.1) = false; rw [h2]; rfl)) fun σ H Q ⟨A, env, R, p⟩ => by
    unfold cIsE at p
    split at p
    · rename_i x hx
      split at p
      · rename_i b hb
        obtain ⟨v, ev, a', C, d', ns, rfl, hex, hcl, xf⟩ := R.cell i _ hx
        have rb : ∀ A H, RepD (G.at (some (a, cls, d))) A H (.bl b) (.bl b) := fun _ _ => by
          unfold RepD
          rfl
        have hex' : some (a, cls, d) = some (a', .ref C, d') := hex
        cases hex'
        refine ⟨_, ev, ?_⟩
        exact ⟨cv, C, b, rfl, rfl, by rw [hk]; exact hX _ _ _ hcl, xfs_d xf, .inl ⟨cu, hcv, by rw [hk]; exact hm _ _ _ _ hcl hb⟩, p A H R (Fr.refl _ _ _) _ (rb A H)⟩
      · exact p.elim
    · exact p.elim
theorem ev_isEt {ces : List Expr} {x1 : Nat} {tp : Pos} {cvs : List V} {cus : List Value} (hk : X.K = G.K) (hz : Zc cls d oe) (hf : ∃ vs, oe.data = .fields vs) (hX : ∀ k C ns, G.cls k = some (C, ns) → ExcC G.K C) (hg : Gl X "isinstance") (hmi : X.mg "isinstance" = none) (hv : bootBuiltins "isinstance" = some (.builtin "isinstance"))
    (hn : PE (X.suite a ((a, oe) :: pn)) e0 (tVar i)) (hce : PA (X.suite a ((a, oe) :: pn)) ces (fun _ H Q => Q cvs H)) (hl : cvs.length ≤ 1000000) (hcv : ∀ us, Vals cvs us → us = cus) (hm : ∀ k C ns b, G.cls k = some (C, ns) → m k = some b → PySem.W.kitAny G.K (.ref C) cus = some b)
    (h1 : starEach [e0, .Tuple ces x1 tp] X.env = (false, eval e0 X.env) :: starEach [.Tuple ces x1 tp] X.env := by rfl) (h2 : starEach [.Tuple ces x1 tp] X.env = (false, eval (.Tuple ces x1 tp) X.env) :: starEach [] X.env := by rfl) :
    PE (X.suite a ((a, oe) :: pn)) (.Call (.Name "isinstance" p) [e0, .Tuple ces x1 tp] [] pos) (tEv (G.at (some (a, cls, d))) XRx W (cIsE i m)) :=
  PE_imp (pe_callB (call_isX hz hf) hg hmi hv (pa_cons hn (pa_cons (pe_tup hce) pa_nil h2) h1) (by decide) (by decide) h1 (by show (backTo pos (starEach [.Tuple ces x1 tp] X.env)).any (·.1) = false; rw [h2]; rfl)) fun σ H Q ⟨A, env, R, p⟩ => by
    unfold cIsE at p
    split at p
    · rename_i x hx
      split at p
      · rename_i b hb
        obtain ⟨v, ev, a', C, d', ns, rfl, hex, hcl, xf⟩ := R.cell i _ hx
        have rb : ∀ A H, RepD (G.at (some (a, cls, d))) A H (.bl b) (.bl b) := fun _ _ => by
          unfold RepD
          rfl
        have hex' : some (a, cls, d) = some (a', .ref C, d') := hex
        cases hex'
        refine ⟨_, ev, ?_⟩
        refine ⟨Nat.le_trans hl (by decide), fun t n => ?_⟩
        have x2 := Ext.newTup R.tup n (.tup cvs)
        exact ⟨.ref t, C, b, rfl, rfl, by rw [hk]; exact hX _ _ _ hcl, (xfs_d (xf.mono x2.stab R.tup)), .inr ⟨t, cvs, cus, rfl, .inl (.inl upd_same), hcv, by rw [hk]; exact hm _ _ _ _ hcl hb⟩, p A _ (x2.rep R) (x2.fr _) _ (rb A (upd H t (.tup cvs)))⟩
      · exact p.elim
    · exact p.elim
end
end

/-- the goal that the head leaves, the classes' places found on the way -/
theorem walk_x {l : PySem.W.OpenLaw} {n k : Nat} {q : Program} {loose : List Str} {XP : (Str → Option Value) → Heap → Prop} {YP : World → Heap → Prop} {d : DefRec} {K : Params → PySem.W.Frag} {x : Str} {Φ : List D → Option RR}
    (hn : l.most = some n) (hn2 : n ≤ sizeLine) (hdf : d.params.defaults = []) (hr : Room k callerA) (hY : ∀ (w : World) (h : Heap), YP w h → (K w.params).In h)
    (F : ∀ (w : World) (mg : Str → Option Value) (fa : Addr) (h : Heap), (K w.params).In h → h.Ns mainGlobals mg → mg d.name = some (.ref fa) →
      ∃ fd : FuncData, (∀ (s : Shared) (u : Value), BindsTo s fd ⟨[u], []⟩ [(x, u)]) ∧ ∃ G : Tb, G.K = K w.params ∧ ∀ base : Heap, (K w.params).In base → base.Ns mainGlobals mg → FnG l.prog w (K w.params) mg base k fa fd [x] (spP G XRx 1 Φ))
    (hΦ : ∀ ns : List Int, ns.length ≤ n → (∀ z ∈ ns, Builtin.Int.intBits z ≤ 1048576) → Φ [.scr ns] = some (.ok (.dat (.bl true)))) : PySem.W.WalkO q loose XP YP l.row.toRowW d [] (fun f vs => PySem.call f vs) := by
  refine Att.attach_callB hn hdf fun w s₀ s₁ mg mb fa o pm cd doc a vs ns Gr Y ho hd hcd hmg hobj hints hlen hbits hg => ?_
  have KX := hY w _ Y
  obtain ⟨fd, hb, G, hG, hF⟩ := F w mg fa _ KX Gr.T.g hmg
  refine law_g KX Gr.T.g Gr.T.b Gr.T.builtins Gr.T.nolimit hg hobj hints (Nat.le_trans hlen hn2) hr hF hb fun H hS => ?_
  refine ⟨fun _ => False, [.scr ns], rfl, fun _ z => z.elim, .cons ?_ .nil, ?_⟩
  · unfold RepD
    refine ⟨a, rfl, ?_⟩
    rcases hS with ⟨o, e⟩ | e
    · exact .inl ⟨fun z => z, o, e⟩
    · rw [← hG] at e
      exact .inr e
  · rw [hΦ ns hlen hbits]
    intro v A' H' _ ro
    unfold RvOk at ro
    unfold RepD at ro
    exact ro
end Tk
/-! TkR: small facts for mirrors: sizes, ==, repr. -/
namespace Tk
open PySem

theorem mulOk_of {i j : Int} (h1 : i.natAbs < 2 ^ 2000) (h2 : j.natAbs < 2 ^ 2000) : mulOk i j = true := by
  unfold mulOk
  have e : (2 : Nat) ^ 2000 ≤ 2 ^ 4000 := Nat.pow_le_pow_right (by decide) (by decide)
  rw [decide_eq_true (Nat.lt_of_lt_of_le h1 e), decide_eq_true (Nat.lt_of_lt_of_le h2 e)]
  rfl
theorem divOk_of {i j : Int} (h0 : 0 < j) (h1 : j.natAbs < 2 ^ 2000) : divOk i j = true := by
  unfold divOk
  have e : (2 : Nat) ^ 2000 ≤ 2 ^ 4000 := Nat.pow_le_pow_right (by decide) (by decide)
  rw [decide_eq_true h0, decide_eq_true (Nat.lt_of_lt_of_le h1 e)]
  rfl
/-- a number that lies between 0 and a written one is small enough -/
theorem sm {i : Int} {m : Nat} (h0 : 0 ≤ i) (h1 : i ≤ m) (hm : m < 2 ^ 2000 := by decide +kernel) : i.natAbs < 2 ^ 2000 := by
  have : i.natAbs ≤ m := by omega
  exact Nat.lt_of_le_of_lt this hm
theorem powOk_lit {i j : Int} (h1 : 0 ≤ j) (h2 : j ≤ 1000) (h3 : i.natAbs < 1000) : powOk i j = true := by
  unfold powOk
  rw [decide_eq_true h1, decide_eq_true h2, decide_eq_true h3]
  rfl
theorem fuel_of {n : Nat} (h : n < 2 ^ 2000) : n < fuelN := by
  unfold fuelN
  exact Nat.lt_of_lt_of_le h (Nat.pow_le_pow_right (by decide) (by decide))
theorem at_nat {α : Type} {l : List α} {r : Int} {v : α} (h0 : 0 ≤ r) (h : l[r.toNat]? = some v) : L2.atI l r = some v := by
  have hr : r = ((r.toNat : Nat) : Int) := by omega
  rw [hr]
  exact L2.atI_nat h

/-! == -/
/-- a text that may be compared and shown -/
def StrOk (x : Str) : Prop := PyData.strOk x = true ∧ (x.cps.toList.all fun c => decide (c < 16 ^ 8)) = true ∧ x.cps.size ≤ 20
theorem StrOk.ltr {c : Nat} (h : c < 128) : StrOk ⟨#[c]⟩ := by
  refine ⟨?_, ?_, ?_⟩
  · simp [PyData.strOk]
    omega
  · simp
    omega
  · simp
theorem shaped_int (i : Int) : SeqAt.shaped (.int i) = true := by simp [SeqAt.shaped, PyData.canLay0, PyData.depth]
theorem shaped_str {x : Str} (h : StrOk x) : SeqAt.shaped (.str x) = true := by simp [SeqAt.shaped, PyData.canLay0, PyData.depth, h.1]
theorem eqF_int (n : Bool) (i j : Int) : eqF n (.int i) (.int j) = some (.dat (.bl (n ^^ decide (i = j)))) := by
  simp [eqF, twoS, eqP, toPy, shaped_int, PyData.eqv]
  by_cases h : i = j <;> simp [h]
theorem eqF_strs (n : Bool) (x y : Str) : eqF n (.str x) (.str y) = some (.dat (.bl (n ^^ decide (x = y)))) := rfl
theorem eqF_str (n : Bool) {x y : Str} (hx : StrOk x) (hy : StrOk y) : eqF n (.str x) (.str y) = some (.dat (.bl (n ^^ decide (x = y)))) := rfl
theorem eqF_of {n : Bool} {d e : D} {p q : PyData} (h1 : toPy d = some p) (h2 : toPy e = some q) (h3 : SeqAt.shaped p = true) (h4 : SeqAt.shaped q = true) : eqF n d e = some (.dat (.bl (n ^^ PyData.eqv p q))) := by
  unfold eqF
  split
  · rename_i sx sy hs
    obtain ⟨rfl, rfl⟩ := twoS_of hs
    cases show some (PyData.str sx) = some p by rw [← h1]; unfold toPy; rfl
    cases show some (PyData.str sy) = some q by rw [← h2]; unfold toPy; rfl
    rw [show PyData.eqv (.str sx) (.str sy) = decide (sx = sy) from by rw [Bool.eq_iff_iff]; simp [PyData.eqv]]
  · unfold eqP
    rw [h1, h2]
    exact if_pos ⟨h3, h4⟩

/-! repr -/
structure RpOk (B : Nat) (p : PyData) : Prop where
  s : PyData.showable p = true
  h : SeqAt.shaped p = true
  l : PyData.leavesShort B p = true
  d : PyData.hasDict p = false
  z : (B + 2) * p.bulk + B ≤ 1000000
theorem fRepr_of {B : Nat} {d : D} {p : PyData} (hB : 8 ≤ B) (h : toPy d = some p) (o : RpOk B p) : fRepr d = some (.dat (.str p.shown)) := by
  have hs := PyData.shown_le_bulk B hB p o.l
  have hz := o.z
  have z : szOk p.shown.length = true := decide_eq_true (by omega)
  unfold fRepr
  rw [h]
  exact if_pos ⟨o.s, o.h, z, o.d⟩
theorem int_short {i : Int} {k : Nat} (hk : 0 < k) (h : i.natAbs < 10 ^ k) : (PyData.shown (.int i)).length ≤ k + 1 := by
  have e := int_text_length_le10 hk h
  show (Str.ofString (toString i)).length ≤ k + 1
  rw [ofString_length]
  exact e
theorem int_show {i : Int} (h : i.natAbs < 2 ^ 1920) : PyData.showable (.int i) = true := decide_eq_true (log2_lt_pow (by decide) h)

/-! isinstance -/
theorem kit1 : L2.kitB "tuple" "tuple" = some true := by decide +kernel
theorem kit2 : L2.kitB "int" "int" = some true := by decide +kernel
theorem kit3 : L2.kitB "int" "bool" = some false := by decide +kernel
theorem ty_tup (l : List D) : fIsi "tuple" (.tup l) = some (.dat (.bl true)) := by simp [fIsi, tyName, kit1]
theorem ty_int (i : Int) : fIsi "int" (.int i) = some (.dat (.bl true)) := by simp [fIsi, tyName, kit2]
theorem ty_nobool (i : Int) : fIsi "bool" (.int i) = some (.dat (.bl false)) := by simp [fIsi, tyName, kit3]
end Tk
namespace K12
open PySem PySem.Spec PyProof.Rows L2 Tk
/-! raised: 0 NoNumber -/
def mxm_RowsError : Nat → Option Bool
  | 0 => some true
  | _ => none
def mki_NoNumber : Nat → Option Bool
  | 0 => some true
  | _ => none
def mki_ValueError : Nat → Option Bool
  | 0 => some true
  | _ => none
def mki_Absent_Barred_TooMany : Nat → Option Bool
  | 0 => some false
  | _ => none
def mki_NoForm_NoLetter_NoPlace_NoSize_NoTicket : Nat → Option Bool
  | 0 => some false
  | _ => none
/-- L_pot: 0 L_script, 1 L_k, 2 L_cell -/
def g_L_pot : SF :=
  (sSeq (sSet [] 2 (cC (.int 0))) (sSeq (sIf (cTest (cBin fLt (cName 1) (cUn fLen (cName 0)))) (sSet [] 2 (cBin fIx (cName 0) (cName 1))) sNil) (sRet (cLst (aCons (cBin fMax (cC (.int 0)) (cBin fSub (cUn fAbs (cName 2)) (cBin fPow (cC (.int 10)) (cC (.int 18))))) (aCons (cBin fMod (cBin fAdd (cBin fAdd (cBin fMul (cBin fMod (cUn fAbs (cName 2)) (cC (.int 2147483629))) (cC (.int 48271))) (cBin fMul (cC (.int 60013)) (cName 1))) (cC (.int 29))) (cC (.int 2147483647))) aNil))))))
def P_L_pot (ds : List D) : Option RR := runP g_L_pot 3 ds
/-- L_digit: 0 L_pot_here, 1 L_many, 2 L_digit_here -/
def g_L_digit : SF :=
  (sSeq (sIf (cTest (cBin fGt (cBin fIx (cName 0) (cC (.int 0))) (cC (.int 0)))) (sSeq (sAsg (cBin fDivmod (cBin fIx (cName 0) (cC (.int 0))) (cName 1)) (gTp 2 (gsCons (gIx 0 (cC (.int 0))) (gsCons (gNm [0] 2) gsNil)))) (sRet (cName 2))) sNil) (sSeq (sAsg (cBin fMod (cBin fAdd (cBin fMul (cBin fIx (cName 0) (cC (.int 1))) (cC (.int 39373))) (cC (.int 12227))) (cC (.int 2147483629))) (gIx 0 (cC (.int 1)))) (sRet (cBin fMod (cBin fDiv (cBin fMod (cBin fMul (cBin fIx (cName 0) (cC (.int 1))) (cBin fIx (cName 0) (cC (.int 1)))) (cC (.int 2147483563))) (cC (.int 13))) (cName 1)))))
def P_L_digit (d : D) (ds : List D) : Option RM := runM g_L_digit 3 d ds
/-- L_letter: 0 L_pot_here -/
def g_L_letter : SF :=
  (sRet (cBin fIx (cC (.str "abcdefghijklmnopqrstuvwxyz")) (cCallM 2 P_L_digit 0 (aCons (cC (.int 26)) aNil))))
def P_L_letter (d : D) (ds : List D) : Option RM := runM g_L_letter 1 d ds
/-- L_far: 0 L_pot_here, 1 L_found, 2 L_k -/
def ft_L_far_1 : GF :=
  (gNm [0] 2)
def fb_L_far_1 : SF :=
  (sSet [0] 1 (cBin fAdd (cBin fMul (cName 1) (cBin fPow (cC (.int 10)) (cC (.int 8)))) (cCallM 2 P_L_digit 0 (aCons (cBin fPow (cC (.int 10)) (cC (.int 8))) aNil))))
def g_L_far : SF :=
  (sSeq (sSet [0] 1 (cC (.int 0))) (sSeq (sFor (iRg1 (aCons (cC (.int 8)) aNil)) ft_L_far_1 fb_L_far_1) (sRet (cBin fMod (cName 1) (cBin fPow (cC (.int 10)) (cC (.int 60)))))))
def P_L_far (d : D) (ds : List D) : Option RM := runM g_L_far 3 d ds
/-- L_number: 0 L_pot_here, 1 L_way -/
def g_L_number : SF :=
  (sSeq (sSet [0] 1 (cCallM 2 P_L_digit 0 (aCons (cC (.int 4)) aNil))) (sSeq (sIf (cTest (cBin (eqF false) (cName 1) (cC (.int 3)))) (sRet (cCallM 1 P_L_far 0 aNil)) sNil) (sRet (cCallM 2 P_L_digit 0 (aCons (cBin fIx (cLst (aCons (cC (.int 4)) (aCons (cC (.int 13)) (aCons (cC (.int 1000)) aNil)))) (cName 1)) aNil)))))
def P_L_number (d : D) (ds : List D) : Option RM := runM g_L_number 2 d ds
/-- L_line: 0 L_pot_here -/
def g_L_line : SF :=
  (sRet (cTup (aCons (cCallM 1 P_L_letter 0 aNil) (aCons (cCallM 1 P_L_number 0 aNil) (aCons (cBin fMax (cC (.int 1)) (cCallM 1 P_L_number 0 aNil)) aNil)))))
def P_L_line (d : D) (ds : List D) : Option RM := runM g_L_line 1 d ds
/-- L_tickets: 0 L_pot_here, 1 L_rail, 2 L_other, 3 L_spin, 4 L_far_here, 5 L_near, 6 L_most, 7 L_early, 8 L_some, 9 L_letter_here, 10 L_number_here -/
def ct_L_tickets_1 : GF :=
  (gTp 2 (gsCons (gNm [0, 1, 2, 3, 4, 5, 6, 7, 8] 9) (gsCons (gNm [0, 1, 2, 3, 4, 5, 6, 7, 8] 10) gsNil)))
def cc_L_tickets_1 : TF :=
  tYesF
def ce_L_tickets_1 : UF :=
  (cUse (cTup (aCons (cName 9) (aCons (cBin fMin (cName 6) (cName 10)) aNil))))
def g_L_tickets : SF :=
  (sSeq (sSet [0] 4 (cBin fAdd (cBin fIx (cName 1) (cC (.int 1))) (cBin fMul (cName 3) (cBin fIx (cName 1) (cC (.int 2)))))) (sSeq (sSet [0] 5 (cBin fMax (cC (.int 0)) (cBin fSub (cBin fAdd (cName 4) (cCallM 2 P_L_digit 0 (aCons (cC (.int 7)) aNil))) (cC (.int 3))))) (sSeq (sSet [0] 6 (cBin fSub (cBin fPow (cC (.int 10)) (cC (.int 60))) (cC (.int 1)))) (sSeq (sSet [0] 7 (cBin fMax (cC (.int 0)) (cBin fAdd (cBin fSub (cBin fIx (cName 1) (cC (.int 1))) (cBin fMul (cCallM 2 P_L_digit 0 (aCons (cC (.int 3)) aNil)) (cBin fIx (cName 1) (cC (.int 2))))) (cCallM 2 P_L_digit 0 (aCons (cC (.int 2)) aNil))))) (sSeq (sSet [0] 8 (cLst (aCons (cTup (aCons (cBin fIx (cName 1) (cC (.int 0))) (aCons (cName 5) aNil))) (aCons (cTup (aCons (cBin fIx (cName 1) (cC (.int 0))) (aCons (cName 7) aNil))) (aCons (cTup (aCons (cBin fIx (cName 1) (cC (.int 0))) (aCons (cCallM 1 P_L_number 0 aNil) aNil))) (aCons (cTup (aCons (cBin fIx (cName 2) (cC (.int 0))) (aCons (cName 4) aNil))) (aCons (cTup (aCons (cBin fIx (cName 1) (cC (.int 0))) (aCons (cBin fDiv (cName 4) (cC (.int 2))) aNil))) aNil))))))) (sSeq (sSet [0] 8 (cBin fAdd (cName 8) (cLst (aCons (cTup (aCons (cBin fIx (cName 1) (cC (.int 0))) (aCons (cBin fMax (cC (.int 0)) (cBin fSub (cBin fIx (cName 1) (cC (.int 1))) (cC (.int 1)))) aNil))) (aCons (cTup (aCons (cBin fIx (cName 2) (cC (.int 0))) (aCons (cBin fIx (cName 2) (cC (.int 1))) aNil))) aNil))))) (sRet (cLc (iIt (cName 8)) [9, 10] ct_L_tickets_1 cc_L_tickets_1 ce_L_tickets_1))))))))
def P_L_tickets (d : D) (ds : List D) : Option RM := runM g_L_tickets 11 d ds
/-- is_whole: 0 thing -/
def g_is_whole : SF :=
  (sRet (cAndV (cUn (fIsi "int") (cName 0)) (cAndV (cNotV (cUn (fIsi "bool") (cName 0))) (cBin fGe (cName 0) (cC (.int 0))))))
def P_is_whole (ds : List D) : Option RR := runP g_is_whole 1 ds
/-- told_at: 0 line, 1 turn, 2 letter, 3 first, 4 step -/
def g_told_at : SF :=
  (sSeq (sIf (tNotF (cTest (cCall 1 P_is_whole (aCons (cName 1) aNil)))) (sRaise 0) sNil) (sSeq (sAsg (cName 0) (gTp 3 (gsCons (gNm [] 2) (gsCons (gNm [] 3) (gsCons (gNm [] 4) gsNil))))) (sRet (cTup (aCons (cName 2) (aCons (cBin fAdd (cName 3) (cBin fMul (cName 1) (cName 4))) aNil))))))
def P_told_at (ds : List D) : Option RR := runP g_told_at 5 ds
/-- turn_of: 0 line, 1 ticket, 2 letter, 3 first, 4 step, 5 own, 6 number, 7 turn, 8 rest -/
def g_turn_of : SF :=
  (sSeq (sAsg (cName 0) (gTp 3 (gsCons (gNm [] 2) (gsCons (gNm [] 3) (gsCons (gNm [] 4) gsNil))))) (sSeq (sAsg (cName 1) (gTp 2 (gsCons (gNm [] 5) (gsCons (gNm [] 6) gsNil)))) (sSeq (sIf (tOrF (cTest (cBin (eqF true) (cName 5) (cName 2))) (cTest (cBin fLt (cName 6) (cName 3)))) (sRet (cC .non)) sNil) (sSeq (sAsg (cBin fDivmod (cBin fSub (cName 6) (cName 3)) (cName 4)) (gTp 2 (gsCons (gNm [] 7) (gsCons (gNm [] 8) gsNil)))) (sRet (cIfE (cTest (cBin (eqF false) (cName 8) (cC (.int 0)))) (cName 7) (cC .non)))))))
def P_turn_of (ds : List D) : Option RR := runP g_turn_of 9 ds
/-- L_told: 0 L_rail, 1 L_spin, 2 L_due, 3 L_found -/
def g_L_told : SF :=
  (sSeq (sSet [] 2 (cTup (aCons (cBin fIx (cName 0) (cC (.int 0))) (aCons (cBin fAdd (cBin fIx (cName 0) (cC (.int 1))) (cBin fMul (cName 1) (cBin fIx (cName 0) (cC (.int 2))))) aNil)))) (sSeq (sSet [] 3 (cCall 2 P_told_at (aCons (cName 0) (aCons (cName 1) aNil)))) (sSeq (sIf (tOrF (tNotF (cTest (cUn (fIsi "tuple") (cName 3)))) (tOrF (cTest (cBin (eqF true) (cUn fRepr (cName 3)) (cUn fRepr (cName 2)))) (cTest (cBin (eqF true) (cUn fRepr (cCallK 2 0 2 P_told_at [1, 0] [] aNil (aCons (cName 1) (aCons (cName 0) aNil)))) (cUn fRepr (cName 2)))))) (sRet (cC (.bl false))) sNil) (sRet (cAndV (cBin (eqF false) (cUn fRepr (cCall 2 P_turn_of (aCons (cName 0) (aCons (cName 3) aNil)))) (cUn fRepr (cName 1))) (cBin (eqF false) (cUn fRepr (cCallK 2 0 2 P_turn_of [1, 0] [] aNil (aCons (cName 3) (aCons (cName 0) aNil)))) (cUn fRepr (cName 1))))))))
def P_L_told (ds : List D) : Option RR := runP g_L_told 4 ds
/-- L_back: 0 L_rail, 1 L_card, 2 L_due -/
def g_L_back : SF :=
  (sSeq (sSet [] 2 (cC .non)) (sSeq (sIf (tAndF (cTest (cBin (eqF false) (cBin fIx (cName 1) (cC (.int 0))) (cBin fIx (cName 0) (cC (.int 0))))) (tAndF (cTest (cBin fGe (cBin fIx (cName 1) (cC (.int 1))) (cBin fIx (cName 0) (cC (.int 1))))) (cTest (cBin (eqF false) (cBin fMod (cBin fSub (cBin fIx (cName 1) (cC (.int 1))) (cBin fIx (cName 0) (cC (.int 1)))) (cBin fIx (cName 0) (cC (.int 2)))) (cC (.int 0)))))) (sSet [] 2 (cBin fDiv (cBin fSub (cBin fIx (cName 1) (cC (.int 1))) (cBin fIx (cName 0) (cC (.int 1)))) (cBin fIx (cName 0) (cC (.int 2))))) sNil) (sRet (cBin (eqF false) (cUn fRepr (cCall 2 P_turn_of (aCons (cName 0) (aCons (cName 1) aNil)))) (cUn fRepr (cName 2))))))
def P_L_back (ds : List D) : Option RR := runP g_L_back 3 ds
/-- L_refused: 0 L_rail, 1 L_spin, 2 L_found, 3 e -/
def tb_L_refused_1 : SF :=
  (sExpr (cCall 2 P_told_at (aCons (cName 0) (aCons (cName 1) aNil))))
def ts_L_refused_1 : SF :=
  (sSeq (sSet [] 2 (cLst (aCons (cIsE 3 mki_NoNumber) (aCons (cIsE 3 mki_ValueError) (aCons (cIsE 3 mki_Absent_Barred_TooMany) aNil))))) (sExpr (cMeth fAppend 2 (aCons (cIsE 3 mki_NoForm_NoLetter_NoPlace_NoSize_NoTicket) aNil))))
def g_L_refused : SF :=
  (sSeq (sSet [] 2 (cC .non)) (sSeq (sTryAs 3 mxm_RowsError tb_L_refused_1 ts_L_refused_1) (sRet (cBin (eqF false) (cName 2) (cLst (aCons (cC (.bl true)) (aCons (cC (.bl true)) (aCons (cC (.bl false)) (aCons (cC (.bl false)) aNil)))))))))
def P_L_refused (ds : List D) : Option RR := runP g_L_refused 4 ds
/-- law: 0 L_script, 1 L_k, 2 L_pot_here, 3 L_rail, 4 L_other, 5 L_spin, 6 L_card, 7 L_odd -/
def ft_law_1 : GF :=
  (gNm [] 6)
def fb_law_1 : SF :=
  (sIf (tOrF (tNotF (cTest (cCall 2 P_L_back (aCons (cName 3) (aCons (cName 6) aNil))))) (tNotF (cTest (cCall 2 P_L_back (aCons (cName 4) (aCons (cName 6) aNil)))))) (sRet (cC (.bl false))) sNil)
def ft_law_2 : GF :=
  (gNm [] 5)
def fb_law_2 : SF :=
  (sSeq (sIf (tOrF (tNotF (cTest (cCall 2 P_L_told (aCons (cName 3) (aCons (cName 5) aNil))))) (tNotF (cTest (cCall 2 P_L_told (aCons (cName 4) (aCons (cName 5) aNil)))))) (sRet (cC (.bl false))) sNil) (sFor (iIt (cCallM 4 P_L_tickets 2 (aCons (cName 3) (aCons (cName 4) (aCons (cName 5) aNil))))) ft_law_1 fb_law_1))
def ct_law_1 : GF :=
  (gNm [0, 1, 2, 3, 4, 6, 7] 5)
def cc_law_1 : TF :=
  tYesF
def ce_law_1 : UF :=
  (cUse (cCall 2 P_L_refused (aCons (cName 3) (aCons (cName 5) aNil))))
def ft_law_3 : GF :=
  (gNm [] 1)
def fb_law_3 : SF :=
  (sSeq (sSet [] 2 (cCall 2 P_L_pot (aCons (cName 0) (aCons (cName 1) aNil)))) (sSeq (sAsg (cTup (aCons (cCallM 1 P_L_line 2 aNil) (aCons (cCallM 1 P_L_line 2 aNil) aNil))) (gTp 2 (gsCons (gNm [] 3) (gsCons (gNm [] 4) gsNil)))) (sSeq (sFor (iIt (cLst (aCons (cC (.int 0)) (aCons (cCallM 2 P_L_digit 2 (aCons (cC (.int 9)) aNil)) (aCons (cCallM 1 P_L_number 2 aNil) (aCons (cCallM 1 P_L_far 2 aNil) aNil)))))) ft_law_2 fb_law_2) (sSeq (sSet [] 7 (cLst (aCons (cUn fNeg (cC (.int 1))) (aCons (cBin fSub (cBin fSub (cC (.int 0)) (cC (.int 1))) (cBin fDiv (cCallM 1 P_L_number 2 aNil) (cC (.int 10)))) (aCons (cC .non) (aCons (cC (.bl true)) (aCons (cC (.bl false)) (aCons (cC (.str "0")) (aCons (cTup (aCons (cC (.int 0)) aNil)) (aCons (cLst (aCons (cC (.int 1)) aNil)) (aCons cDct0 (aCons (cTup aNil) aNil)))))))))))) (sIf (tOrF (tNotF (cTest (cUn fAll (cLc (iIt (cName 7)) [5] ct_law_1 cc_law_1 ce_law_1)))) (tNotF (cTest (cCall 2 P_L_told (aCons (cName 3) (aCons (cC (.int 1)) aNil)))))) (sRet (cC (.bl false))) sNil)))))
def g_law : SF :=
  (sSeq (sFor (iRg1 (aCons (cBin fMax (cC (.int 1)) (cBin fMin (cUn fLen (cName 0)) (cC (.int 10)))) aNil)) ft_law_3 fb_law_3) (sRet (cC (.bl true))))
def P_law (ds : List D) : Option RR := runP g_law 8 ds
end K12
namespace K12
open PySem PySem.Spec PyProof.Rows L2 Tk
def topS (i : Nat) : Stmt := PySem.Challenge.pw_ticketrows_k12_turns_there_and_back.main.body.getD i (.Pass ⟨0, 0, 0, 0⟩)
/-- where the classes lie -/
structure Cl where
  none_ : Nat
  NoNumber : Addr
  RowsError : Addr
  Absent : Addr
  Barred : Addr
  TooMany : Addr
  NoForm : Addr
  NoLetter : Addr
  NoPlace : Addr
  NoSize : Addr
  NoTicket : Addr
def clsT (cc : Cl) : Nat → Option (Addr × List Str)
  | 0 => some (cc.NoNumber, [])
  | _ => none
abbrev GG (K : PySem.W.Frag) (cc : Cl) : Tb := ⟨K, clsT cc, fun _ => none, none⟩
abbrev XR0 : XW := XRx
structure Cn (mg : Str → Option Value) : Prop where
  none_ : True
structure Ce (K : PySem.W.Frag) (mg : Str → Option Value) (cc : Cl) : Prop where
  none_ : True
  g_NoNumber : mg "NoNumber" = some (.ref cc.NoNumber)
  g_RowsError : mg "RowsError" = some (.ref cc.RowsError)
  g_Absent : mg "Absent" = some (.ref cc.Absent)
  g_Barred : mg "Barred" = some (.ref cc.Barred)
  g_TooMany : mg "TooMany" = some (.ref cc.TooMany)
  g_NoForm : mg "NoForm" = some (.ref cc.NoForm)
  g_NoLetter : mg "NoLetter" = some (.ref cc.NoLetter)
  g_NoPlace : mg "NoPlace" = some (.ref cc.NoPlace)
  g_NoSize : mg "NoSize" = some (.ref cc.NoSize)
  g_NoTicket : mg "NoTicket" = some (.ref cc.NoTicket)
  k_NoNumber : PySem.W.keepIn K (.ref cc.NoNumber) = true
  x_NoNumber : PySem.W.excIn K cc.NoNumber [.type "ValueError", .type "Exception", .type "BaseException", .type "object"] "ValueError.__new__" = true
  b_NoNumber : PySem.W.subIn K (.ref cc.NoNumber) (.type "BaseException") = some true
  t_NoNumber : PySem.W.typeIn K (.ref cc.NoNumber) = some (.type "type")
  eg_NoNumber : PySem.W.findIn K (.ref cc.NoNumber) "__getattribute__" = some (some (.builtin "BaseException.__getattribute__"))
  ek_NoNumber : PySem.W.findIn K (.ref cc.NoNumber) "__getattr__" = some none
  ed_NoNumber : PySem.W.hasDictIn K cc.NoNumber = true
  ea_NoNumber : PySem.W.findIn K (.ref cc.NoNumber) "__class__" = some (some (.builtin "object.__class__"))
  em_NoNumber : PySem.W.mroIn K cc.NoNumber (.type "object") = some true
  xm_NoNumber_RowsError : PySem.W.exmOne K (.ref cc.NoNumber) (.ref cc.RowsError) = some true
  ki_NoNumber_NoNumber : PySem.W.kitOne K (.ref cc.NoNumber) (.ref cc.NoNumber) = some true
  ki_NoNumber_ValueError : PySem.W.kitOne K (.ref cc.NoNumber) (.type "ValueError") = some true
  ki_NoNumber_Absent : PySem.W.kitOne K (.ref cc.NoNumber) (.ref cc.Absent) = some false
  ki_NoNumber_Barred : PySem.W.kitOne K (.ref cc.NoNumber) (.ref cc.Barred) = some false
  ki_NoNumber_TooMany : PySem.W.kitOne K (.ref cc.NoNumber) (.ref cc.TooMany) = some false
  ki_NoNumber_NoForm : PySem.W.kitOne K (.ref cc.NoNumber) (.ref cc.NoForm) = some false
  ki_NoNumber_NoLetter : PySem.W.kitOne K (.ref cc.NoNumber) (.ref cc.NoLetter) = some false
  ki_NoNumber_NoPlace : PySem.W.kitOne K (.ref cc.NoNumber) (.ref cc.NoPlace) = some false
  ki_NoNumber_NoSize : PySem.W.kitOne K (.ref cc.NoNumber) (.ref cc.NoSize) = some false
  ki_NoNumber_NoTicket : PySem.W.kitOne K (.ref cc.NoNumber) (.ref cc.NoTicket) = some false
  en_ : PySem.W.specialIn K (.builtin "object.__class__") "__get__" = some (some (.builtin "getset_descriptor.__get__"))
  et_ : PySem.W.takesIn K (.builtin "object.__class__") = some true
theorem xm_RowsError {K : PySem.W.Frag} {mg : Str → Option Value} {cc : Cl} (ce : Ce K mg cc) : ∀ k C ns b, (GG K cc).cls k = some (C, ns) → mxm_RowsError k = some b → PySem.W.exmOne K (.ref C) (.ref cc.RowsError) = some b
  | 0, C, ns, b, h1, h2 => by
    cases h1
    cases h2
    exact ce.xm_NoNumber_RowsError
  | n + 1, C, ns, b, h1, _ => by cases h1
theorem xc_all {K : PySem.W.Frag} {mg : Str → Option Value} {cc : Cl} (ce : Ce K mg cc) : ∀ k C ns, (GG K cc).cls k = some (C, ns) → ExcC K C
  | 0, C, ns, h1 => by
    cases h1
    exact ⟨ce.eg_NoNumber, ce.ek_NoNumber, ce.b_NoNumber, ce.ed_NoNumber, ce.ea_NoNumber, ce.en_, ce.et_, ce.em_NoNumber⟩
  | n + 1, C, ns, h1 => by cases h1
theorem ki_NoNumber {K : PySem.W.Frag} {mg : Str → Option Value} {cc : Cl} (ce : Ce K mg cc) : ∀ k C ns b, (GG K cc).cls k = some (C, ns) → mki_NoNumber k = some b → PySem.W.kitOne K (.ref C) (.ref cc.NoNumber) = some b
  | 0, C, ns, b, h1, h2 => by
    cases h1
    cases h2
    exact ce.ki_NoNumber_NoNumber
  | n + 1, C, ns, b, h1, _ => by cases h1
theorem ki_ValueError {K : PySem.W.Frag} {mg : Str → Option Value} {cc : Cl} (ce : Ce K mg cc) : ∀ k C ns b, (GG K cc).cls k = some (C, ns) → mki_ValueError k = some b → PySem.W.kitOne K (.ref C) (.type "ValueError") = some b
  | 0, C, ns, b, h1, h2 => by
    cases h1
    cases h2
    exact ce.ki_NoNumber_ValueError
  | n + 1, C, ns, b, h1, _ => by cases h1
theorem ki_Absent_Barred_TooMany {K : PySem.W.Frag} {mg : Str → Option Value} {cc : Cl} (ce : Ce K mg cc) : ∀ k C ns b, (GG K cc).cls k = some (C, ns) → mki_Absent_Barred_TooMany k = some b → PySem.W.kitAny K (.ref C) [.ref cc.Absent, .ref cc.Barred, .ref cc.TooMany] = some b
  | 0, C, ns, b, h1, h2 => by
    cases h1
    cases h2
    simp only [PySem.W.kitAny, ce.ki_NoNumber_Absent, ce.ki_NoNumber_Barred, ce.ki_NoNumber_TooMany]
  | n + 1, C, ns, b, h1, _ => by cases h1
theorem ki_NoForm_NoLetter_NoPlace_NoSize_NoTicket {K : PySem.W.Frag} {mg : Str → Option Value} {cc : Cl} (ce : Ce K mg cc) : ∀ k C ns b, (GG K cc).cls k = some (C, ns) → mki_NoForm_NoLetter_NoPlace_NoSize_NoTicket k = some b → PySem.W.kitAny K (.ref C) [.ref cc.NoForm, .ref cc.NoLetter, .ref cc.NoPlace, .ref cc.NoSize, .ref cc.NoTicket] = some b
  | 0, C, ns, b, h1, h2 => by
    cases h1
    cases h2
    simp only [PySem.W.kitAny, ce.ki_NoNumber_NoForm, ce.ki_NoNumber_NoLetter, ce.ki_NoNumber_NoPlace, ce.ki_NoNumber_NoSize, ce.ki_NoNumber_NoTicket]
  | n + 1, C, ns, b, h1, _ => by cases h1
structure Bn (mg : Str → Option Value) : Prop where
  b_len : mg "len" = none
  b_abs : mg "abs" = none
  b_max : mg "max" = none
  b_divmod : mg "divmod" = none
  b_range : mg "range" = none
  b_min : mg "min" = none
  b_isinstance : mg "isinstance" = none
  b_int : mg "int" = none
  b_bool : mg "bool" = none
  b_tuple : mg "tuple" = none
  b_repr : mg "repr" = none
  b_ValueError : mg "ValueError" = none
  b_all : mg "all" = none
abbrev s_L_pot : Stmt := topS 16
abbrev N_L_pot : List Str := ["_law_script", "_law_k", "_law_cell"]
theorem sc_L_pot : FnScope N_L_pot ["_law_script", "_law_k"] (defScope s_L_pot) := ⟨rfl, rfl, rfl, by decide +kernel, rfl, by decide +kernel, by decide +kernel⟩
theorem kl_L_pot_0 {X : Cx} (h : X.env.scope = defScope s_L_pot) : X.env.scope.names.lookup ("_law_script" : Str) = some .local := by rw [h]; decide +kernel
theorem lc_L_pot_0 {X : Cx} (h : X.env.scope = defScope s_L_pot) : Loc X.env.scope "_law_script" := .inl (kl_L_pot_0 h)
theorem nv_L_pot_0 {X : Cx} {pos : Pos} (hN : X.N = N_L_pot) (h : X.env.scope = defScope s_L_pot) : PE X (.Name "_law_script" pos) (tVar 0) := pe_var (by rw [hN]; rfl) (.inl (kl_L_pot_0 h))
theorem kl_L_pot_1 {X : Cx} (h : X.env.scope = defScope s_L_pot) : X.env.scope.names.lookup ("_law_k" : Str) = some .local := by rw [h]; decide +kernel
theorem lc_L_pot_1 {X : Cx} (h : X.env.scope = defScope s_L_pot) : Loc X.env.scope "_law_k" := .inl (kl_L_pot_1 h)
theorem nv_L_pot_1 {X : Cx} {pos : Pos} (hN : X.N = N_L_pot) (h : X.env.scope = defScope s_L_pot) : PE X (.Name "_law_k" pos) (tVar 1) := pe_var (by rw [hN]; rfl) (.inl (kl_L_pot_1 h))
theorem kl_L_pot_2 {X : Cx} (h : X.env.scope = defScope s_L_pot) : X.env.scope.names.lookup ("_law_cell" : Str) = some .local := by rw [h]; decide +kernel
theorem lc_L_pot_2 {X : Cx} (h : X.env.scope = defScope s_L_pot) : Loc X.env.scope "_law_cell" := .inl (kl_L_pot_2 h)
theorem nv_L_pot_2 {X : Cx} {pos : Pos} (hN : X.N = N_L_pot) (h : X.env.scope = defScope s_L_pot) : PE X (.Name "_law_cell" pos) (tVar 2) := pe_var (by rw [hN]; rfl) (.inl (kl_L_pot_2 h))
theorem gl_L_pot_abs {X : Cx} (h : X.env.scope = defScope s_L_pot) : Gl X "abs" := by unfold Gl PySem.Env.kindOf; rw [h]; decide +kernel
theorem gl_L_pot_len {X : Cx} (h : X.env.scope = defScope s_L_pot) : Gl X "len" := by unfold Gl PySem.Env.kindOf; rw [h]; decide +kernel
theorem gl_L_pot_max {X : Cx} (h : X.env.scope = defScope s_L_pot) : Gl X "max" := by unfold Gl PySem.Env.kindOf; rw [h]; decide +kernel
theorem der_L_pot {P : Program} {w : World} {K : PySem.W.Frag} {mg : Str → Option Value} {base : Heap} {cc : Cl} (bn : Bn mg) (cn : Cn mg) (ce : Ce K mg cc)  {f : Addr} (cdv : Value) (A : Around) (outer : List PySem.Env) (s : Shared) (H : Hp) (E : XK) (hr : Room 0 (A.deeper (envOfC "_law_pot" (defScope s_L_pot) s.heap.objs.size f cdv))) (hg : A.guards = some []) :
    PSs (cxOf (L2.CX P w) P w K mg base N_L_pot "_law_pot" (defScope s_L_pot) f cdv A outer s H E) (defBody s_L_pot) (tEx (GG K cc) XR0 (fun c d _ H => E c d H) [] g_L_pot) := by
  have B : Bx (GG K cc) (fun c d _ H => E c d H) 0 (cxOf (L2.CX P w) P w K mg base N_L_pot "_law_pot" (defScope s_L_pot) f cdv A outer s H E) := Bx.of rfl sc_L_pot.nd hr hg
  unfold g_L_pot
  exact (es_cons (es_set (i := 2) B.nd rfl (lc_L_pot_2 rfl) ev_int) (es_cons (es_if (et_cmp op_lt o_lt (ev_name (nv_L_pot_1 rfl rfl)) (ev_callB1 call_lenAll o_len (gl_L_pot_len rfl) bn.b_len (by decide +kernel) (ev_name (nv_L_pot_0 rfl rfl))) (nomark _)) (es_one (es_set (i := 2) B.nd rfl (lc_L_pot_2 rfl) (ev_ix ix_seq o_ix (ev_name (nv_L_pot_0 rfl rfl)) (ev_name (nv_L_pot_1 rfl rfl)) (fun _ _ => rfl)))) es_nil) (es_one (es_ret (ev_lst (ea_cons (ev_callB2 (call_max2 B.calm) o_max (gl_L_pot_max rfl) bn.b_max (by decide +kernel) ev_int (ev_op op_sub o_sub (ev_callB1 call_abs o_abs (gl_L_pot_abs rfl) bn.b_abs (by decide +kernel) (ev_name (nv_L_pot_2 rfl rfl))) (ev_op op_pow o_pow ev_int ev_int))) (ea_cons (ev_op op_mod o_mod (ev_op op_addAll o_add (ev_op op_addAll o_add (ev_op op_mulW o_mul (ev_op op_mod o_mod (ev_callB1 call_abs o_abs (gl_L_pot_abs rfl) bn.b_abs (by decide +kernel) (ev_name (nv_L_pot_2 rfl rfl))) ev_int) ev_int) (ev_op op_mulW o_mul ev_int (ev_name (nv_L_pot_1 rfl rfl)))) ev_int) ev_int) ea_nil)))))))
abbrev s_L_digit : Stmt := topS 17
abbrev N_L_digit : List Str := ["_law_pot_here", "_law_many", "_law_digit_here"]
theorem sc_L_digit : FnScope N_L_digit ["_law_pot_here", "_law_many"] (defScope s_L_digit) := ⟨rfl, rfl, rfl, by decide +kernel, rfl, by decide +kernel, by decide +kernel⟩
theorem kl_L_digit_0 {X : Cx} (h : X.env.scope = defScope s_L_digit) : X.env.scope.names.lookup ("_law_pot_here" : Str) = some .local := by rw [h]; decide +kernel
theorem lc_L_digit_0 {X : Cx} (h : X.env.scope = defScope s_L_digit) : Loc X.env.scope "_law_pot_here" := .inl (kl_L_digit_0 h)
theorem nv_L_digit_0 {X : Cx} {pos : Pos} (hN : X.N = N_L_digit) (h : X.env.scope = defScope s_L_digit) : PE X (.Name "_law_pot_here" pos) (tVar 0) := pe_var (by rw [hN]; rfl) (.inl (kl_L_digit_0 h))
theorem kl_L_digit_1 {X : Cx} (h : X.env.scope = defScope s_L_digit) : X.env.scope.names.lookup ("_law_many" : Str) = some .local := by rw [h]; decide +kernel
theorem lc_L_digit_1 {X : Cx} (h : X.env.scope = defScope s_L_digit) : Loc X.env.scope "_law_many" := .inl (kl_L_digit_1 h)
theorem nv_L_digit_1 {X : Cx} {pos : Pos} (hN : X.N = N_L_digit) (h : X.env.scope = defScope s_L_digit) : PE X (.Name "_law_many" pos) (tVar 1) := pe_var (by rw [hN]; rfl) (.inl (kl_L_digit_1 h))
theorem kl_L_digit_2 {X : Cx} (h : X.env.scope = defScope s_L_digit) : X.env.scope.names.lookup ("_law_digit_here" : Str) = some .local := by rw [h]; decide +kernel
theorem lc_L_digit_2 {X : Cx} (h : X.env.scope = defScope s_L_digit) : Loc X.env.scope "_law_digit_here" := .inl (kl_L_digit_2 h)
theorem nv_L_digit_2 {X : Cx} {pos : Pos} (hN : X.N = N_L_digit) (h : X.env.scope = defScope s_L_digit) : PE X (.Name "_law_digit_here" pos) (tVar 2) := pe_var (by rw [hN]; rfl) (.inl (kl_L_digit_2 h))
theorem gl_L_digit_divmod {X : Cx} (h : X.env.scope = defScope s_L_digit) : Gl X "divmod" := by unfold Gl PySem.Env.kindOf; rw [h]; decide +kernel
theorem der_L_digit {P : Program} {w : World} {K : PySem.W.Frag} {mg : Str → Option Value} {base : Heap} {cc : Cl} (bn : Bn mg) (cn : Cn mg) (ce : Ce K mg cc)  {f : Addr} (cdv : Value) (A : Around) (outer : List PySem.Env) (s : Shared) (H : Hp) (E : XK) (hr : Room 0 (A.deeper (envOfC "_law_digit" (defScope s_L_digit) s.heap.objs.size f cdv))) (hg : A.guards = some []) :
    PSs (cxOf (L2.CX P w) P w K mg base N_L_digit "_law_digit" (defScope s_L_digit) f cdv A outer s H E) (defBody s_L_digit) (tEx (GG K cc) XR0 (fun c d _ H => E c d H) [0] g_L_digit) := by
  have B : Bx (GG K cc) (fun c d _ H => E c d H) 0 (cxOf (L2.CX P w) P w K mg base N_L_digit "_law_digit" (defScope s_L_digit) f cdv A outer s H E) := Bx.of rfl sc_L_digit.nd hr hg
  unfold g_L_digit
  exact (es_cons (es_if (et_cmp op_gt o_gt (ev_ix ix_seq o_ix (ev_name (nv_L_digit_0 rfl rfl)) ev_int (fun _ _ => rfl)) ev_int (nomark _)) (es_cons (es_asg (ev_callB2 call_divmodW o_divmod (gl_L_digit_divmod rfl) bn.b_divmod (by decide +kernel) (ev_ix ix_seq o_ix (ev_name (nv_L_digit_0 rfl rfl)) ev_int (fun _ _ => rfl)) (ev_name (nv_L_digit_1 rfl rfl))) (eg_tup B.calm B.kk (egs_cons (eg_sub (nv_L_digit_0 rfl rfl) ev_int) (egs_cons (eg_name (pg_name (i := 2) B.nd rfl (lc_L_digit_2 rfl))) egs_nil)))) (es_one (es_ret (ev_name (nv_L_digit_2 rfl rfl))))) es_nil) (es_cons (es_asg (ev_op op_mod o_mod (ev_op op_addAll o_add (ev_op op_mulW o_mul (ev_ix ix_seq o_ix (ev_name (nv_L_digit_0 rfl rfl)) ev_int (fun _ _ => rfl)) ev_int) ev_int) ev_int) (eg_sub (nv_L_digit_0 rfl rfl) ev_int)) (es_one (es_ret (ev_op op_mod o_mod (ev_op op_fdivW o_div (ev_op op_mod o_mod (ev_op op_mulW o_mul (ev_ix ix_seq o_ix (ev_name (nv_L_digit_0 rfl rfl)) ev_int (fun _ _ => rfl)) (ev_ix ix_seq o_ix (ev_name (nv_L_digit_0 rfl rfl)) ev_int (fun _ _ => rfl))) ev_int) ev_int) (ev_name (nv_L_digit_1 rfl rfl)))))))
abbrev s_L_letter : Stmt := topS 20
abbrev N_L_letter : List Str := ["_law_pot_here"]
theorem sc_L_letter : FnScope N_L_letter ["_law_pot_here"] (defScope s_L_letter) := ⟨rfl, rfl, rfl, by decide +kernel, rfl, by decide +kernel, by decide +kernel⟩
theorem kl_L_letter_0 {X : Cx} (h : X.env.scope = defScope s_L_letter) : X.env.scope.names.lookup ("_law_pot_here" : Str) = some .local := by rw [h]; decide +kernel
theorem lc_L_letter_0 {X : Cx} (h : X.env.scope = defScope s_L_letter) : Loc X.env.scope "_law_pot_here" := .inl (kl_L_letter_0 h)
theorem nv_L_letter_0 {X : Cx} {pos : Pos} (hN : X.N = N_L_letter) (h : X.env.scope = defScope s_L_letter) : PE X (.Name "_law_pot_here" pos) (tVar 0) := pe_var (by rw [hN]; rfl) (.inl (kl_L_letter_0 h))
theorem gl_L_letter_L_digit {X : Cx} (h : X.env.scope = defScope s_L_letter) : Gl X "_law_digit" := by unfold Gl PySem.Env.kindOf; rw [h]; decide +kernel
theorem der_L_letter {P : Program} {w : World} {K : PySem.W.Frag} {mg : Str → Option Value} {base : Heap} {cc : Cl} (bn : Bn mg) (cn : Cn mg) (ce : Ce K mg cc) {fa_L_digit : Addr} {fd_L_digit : FuncData} (I_L_digit : FnI P w K mg base "_law_digit" 1 ["_law_pot_here", "_law_many"] (spM (GG K cc) XR0 2 P_L_digit) fa_L_digit fd_L_digit) {f : Addr} (cdv : Value) (A : Around) (outer : List PySem.Env) (s : Shared) (H : Hp) (E : XK) (hr : Room 1 (A.deeper (envOfC "_law_letter" (defScope s_L_letter) s.heap.objs.size f cdv))) (hg : A.guards = some []) :
    PSs (cxOf (L2.CX P w) P w K mg base N_L_letter "_law_letter" (defScope s_L_letter) f cdv A outer s H E) (defBody s_L_letter) (tEx (GG K cc) XR0 (fun c d _ H => E c d H) [0] g_L_letter) := by
  have B : Bx (GG K cc) (fun c d _ H => E c d H) 1 (cxOf (L2.CX P w) P w K mg base N_L_letter "_law_letter" (defScope s_L_letter) f cdv A outer s H E) := Bx.of rfl sc_L_letter.nd hr hg
  unfold g_L_letter
  exact (es_one (es_ret (ev_ix ix_seq o_ix ev_str (ev_callM I_L_digit.fn (B.room.mono (by decide)) B.gu B.tk (gl_L_letter_L_digit rfl) I_L_digit.mg I_L_digit.kp I_L_digit.bd (nv_L_letter_0 rfl rfl) (ea_cons ev_int ea_nil)) (fun _ _ => rfl))))
abbrev s_L_far : Stmt := topS 18
abbrev N_L_far : List Str := ["_law_pot_here", "_law_found", "_law_k"]
theorem sc_L_far : FnScope N_L_far ["_law_pot_here"] (defScope s_L_far) := ⟨rfl, rfl, rfl, by decide +kernel, rfl, by decide +kernel, by decide +kernel⟩
theorem kl_L_far_0 {X : Cx} (h : X.env.scope = defScope s_L_far) : X.env.scope.names.lookup ("_law_pot_here" : Str) = some .local := by rw [h]; decide +kernel
theorem lc_L_far_0 {X : Cx} (h : X.env.scope = defScope s_L_far) : Loc X.env.scope "_law_pot_here" := .inl (kl_L_far_0 h)
theorem nv_L_far_0 {X : Cx} {pos : Pos} (hN : X.N = N_L_far) (h : X.env.scope = defScope s_L_far) : PE X (.Name "_law_pot_here" pos) (tVar 0) := pe_var (by rw [hN]; rfl) (.inl (kl_L_far_0 h))
theorem kl_L_far_1 {X : Cx} (h : X.env.scope = defScope s_L_far) : X.env.scope.names.lookup ("_law_found" : Str) = some .local := by rw [h]; decide +kernel
theorem lc_L_far_1 {X : Cx} (h : X.env.scope = defScope s_L_far) : Loc X.env.scope "_law_found" := .inl (kl_L_far_1 h)
theorem nv_L_far_1 {X : Cx} {pos : Pos} (hN : X.N = N_L_far) (h : X.env.scope = defScope s_L_far) : PE X (.Name "_law_found" pos) (tVar 1) := pe_var (by rw [hN]; rfl) (.inl (kl_L_far_1 h))
theorem kl_L_far_2 {X : Cx} (h : X.env.scope = defScope s_L_far) : X.env.scope.names.lookup ("_law_k" : Str) = some .local := by rw [h]; decide +kernel
theorem lc_L_far_2 {X : Cx} (h : X.env.scope = defScope s_L_far) : Loc X.env.scope "_law_k" := .inl (kl_L_far_2 h)
theorem nv_L_far_2 {X : Cx} {pos : Pos} (hN : X.N = N_L_far) (h : X.env.scope = defScope s_L_far) : PE X (.Name "_law_k" pos) (tVar 2) := pe_var (by rw [hN]; rfl) (.inl (kl_L_far_2 h))
theorem gl_L_far_L_digit {X : Cx} (h : X.env.scope = defScope s_L_far) : Gl X "_law_digit" := by unfold Gl PySem.Env.kindOf; rw [h]; decide +kernel
theorem gl_L_far_range {X : Cx} (h : X.env.scope = defScope s_L_far) : Gl X "range" := by unfold Gl PySem.Env.kindOf; rw [h]; decide +kernel
theorem der_L_far {P : Program} {w : World} {K : PySem.W.Frag} {mg : Str → Option Value} {base : Heap} {cc : Cl} (bn : Bn mg) (cn : Cn mg) (ce : Ce K mg cc) {fa_L_digit : Addr} {fd_L_digit : FuncData} (I_L_digit : FnI P w K mg base "_law_digit" 1 ["_law_pot_here", "_law_many"] (spM (GG K cc) XR0 2 P_L_digit) fa_L_digit fd_L_digit) {f : Addr} (cdv : Value) (A : Around) (outer : List PySem.Env) (s : Shared) (H : Hp) (E : XK) (hr : Room 1 (A.deeper (envOfC "_law_far" (defScope s_L_far) s.heap.objs.size f cdv))) (hg : A.guards = some []) :
    PSs (cxOf (L2.CX P w) P w K mg base N_L_far "_law_far" (defScope s_L_far) f cdv A outer s H E) (defBody s_L_far) (tEx (GG K cc) XR0 (fun c d _ H => E c d H) [0] g_L_far) := by
  have B : Bx (GG K cc) (fun c d _ H => E c d H) 1 (cxOf (L2.CX P w) P w K mg base N_L_far "_law_far" (defScope s_L_far) f cdv A outer s H E) := Bx.of rfl sc_L_far.nd hr hg
  unfold g_L_far fb_L_far_1 ft_L_far_1
  exact (es_cons (es_set (i := 1) B.nd rfl (lc_L_far_1 rfl) ev_int) (es_cons (es_for B.po B.calm (ei_range1 (gl_L_far_range rfl) bn.b_range (ea_cons ev_int ea_nil)) (eg_name (pg_name (i := 2) B.nd rfl (lc_L_far_2 rfl))) (es_one (es_set (i := 1) B.nd rfl (lc_L_far_1 rfl) (ev_op op_addAll o_add (ev_op op_mulW o_mul (ev_name (nv_L_far_1 rfl rfl)) (ev_op op_pow o_pow ev_int ev_int)) (ev_callM I_L_digit.fn (B.room.mono (by decide)) B.gu B.tk (gl_L_far_L_digit rfl) I_L_digit.mg I_L_digit.kp I_L_digit.bd (nv_L_far_0 rfl rfl) (ea_cons (ev_op op_pow o_pow ev_int ev_int) ea_nil)))))) (es_one (es_ret (ev_op op_mod o_mod (ev_name (nv_L_far_1 rfl rfl)) (ev_op op_pow o_pow ev_int ev_int))))))
abbrev s_L_number : Stmt := topS 19
abbrev N_L_number : List Str := ["_law_pot_here", "_law_way"]
theorem sc_L_number : FnScope N_L_number ["_law_pot_here"] (defScope s_L_number) := ⟨rfl, rfl, rfl, by decide +kernel, rfl, by decide +kernel, by decide +kernel⟩
theorem kl_L_number_0 {X : Cx} (h : X.env.scope = defScope s_L_number) : X.env.scope.names.lookup ("_law_pot_here" : Str) = some .local := by rw [h]; decide +kernel
theorem lc_L_number_0 {X : Cx} (h : X.env.scope = defScope s_L_number) : Loc X.env.scope "_law_pot_here" := .inl (kl_L_number_0 h)
theorem nv_L_number_0 {X : Cx} {pos : Pos} (hN : X.N = N_L_number) (h : X.env.scope = defScope s_L_number) : PE X (.Name "_law_pot_here" pos) (tVar 0) := pe_var (by rw [hN]; rfl) (.inl (kl_L_number_0 h))
theorem kl_L_number_1 {X : Cx} (h : X.env.scope = defScope s_L_number) : X.env.scope.names.lookup ("_law_way" : Str) = some .local := by rw [h]; decide +kernel
theorem lc_L_number_1 {X : Cx} (h : X.env.scope = defScope s_L_number) : Loc X.env.scope "_law_way" := .inl (kl_L_number_1 h)
theorem nv_L_number_1 {X : Cx} {pos : Pos} (hN : X.N = N_L_number) (h : X.env.scope = defScope s_L_number) : PE X (.Name "_law_way" pos) (tVar 1) := pe_var (by rw [hN]; rfl) (.inl (kl_L_number_1 h))
theorem gl_L_number_L_digit {X : Cx} (h : X.env.scope = defScope s_L_number) : Gl X "_law_digit" := by unfold Gl PySem.Env.kindOf; rw [h]; decide +kernel
theorem gl_L_number_L_far {X : Cx} (h : X.env.scope = defScope s_L_number) : Gl X "_law_far" := by unfold Gl PySem.Env.kindOf; rw [h]; decide +kernel
theorem der_L_number {P : Program} {w : World} {K : PySem.W.Frag} {mg : Str → Option Value} {base : Heap} {cc : Cl} (bn : Bn mg) (cn : Cn mg) (ce : Ce K mg cc) {fa_L_digit : Addr} {fd_L_digit : FuncData} (I_L_digit : FnI P w K mg base "_law_digit" 1 ["_law_pot_here", "_law_many"] (spM (GG K cc) XR0 2 P_L_digit) fa_L_digit fd_L_digit) {fa_L_far : Addr} {fd_L_far : FuncData} (I_L_far : FnI P w K mg base "_law_far" 2 ["_law_pot_here"] (spM (GG K cc) XR0 1 P_L_far) fa_L_far fd_L_far) {f : Addr} (cdv : Value) (A : Around) (outer : List PySem.Env) (s : Shared) (H : Hp) (E : XK) (hr : Room 2 (A.deeper (envOfC "_law_number" (defScope s_L_number) s.heap.objs.size f cdv))) (hg : A.guards = some []) :
    PSs (cxOf (L2.CX P w) P w K mg base N_L_number "_law_number" (defScope s_L_number) f cdv A outer s H E) (defBody s_L_number) (tEx (GG K cc) XR0 (fun c d _ H => E c d H) [0] g_L_number) := by
  have B : Bx (GG K cc) (fun c d _ H => E c d H) 2 (cxOf (L2.CX P w) P w K mg base N_L_number "_law_number" (defScope s_L_number) f cdv A outer s H E) := Bx.of rfl sc_L_number.nd hr hg
  unfold g_L_number
  exact (es_cons (es_set (i := 1) B.nd rfl (lc_L_number_1 rfl) (ev_callM I_L_digit.fn (B.room.mono (by decide)) B.gu B.tk (gl_L_number_L_digit rfl) I_L_digit.mg I_L_digit.kp I_L_digit.bd (nv_L_number_0 rfl rfl) (ea_cons ev_int ea_nil))) (es_cons (es_if (et_cmp (op_eqT B.un64) o_eq (ev_name (nv_L_number_1 rfl rfl)) ev_int (nomark _)) (es_one (es_ret (ev_callM I_L_far.fn (B.room.mono (by decide)) B.gu B.tk (gl_L_number_L_far rfl) I_L_far.mg I_L_far.kp I_L_far.bd (nv_L_number_0 rfl rfl) ea_nil))) es_nil) (es_one (es_ret (ev_callM I_L_digit.fn (B.room.mono (by decide)) B.gu B.tk (gl_L_number_L_digit rfl) I_L_digit.mg I_L_digit.kp I_L_digit.bd (nv_L_number_0 rfl rfl) (ea_cons (ev_ix ix_seq o_ix (ev_lst (ea_cons ev_int (ea_cons ev_int (ea_cons ev_int ea_nil)))) (ev_name (nv_L_number_1 rfl rfl)) (fun _ _ => rfl)) ea_nil))))))
abbrev s_L_line : Stmt := topS 21
abbrev N_L_line : List Str := ["_law_pot_here"]
theorem sc_L_line : FnScope N_L_line ["_law_pot_here"] (defScope s_L_line) := ⟨rfl, rfl, rfl, by decide +kernel, rfl, by decide +kernel, by decide +kernel⟩
theorem kl_L_line_0 {X : Cx} (h : X.env.scope = defScope s_L_line) : X.env.scope.names.lookup ("_law_pot_here" : Str) = some .local := by rw [h]; decide +kernel
theorem lc_L_line_0 {X : Cx} (h : X.env.scope = defScope s_L_line) : Loc X.env.scope "_law_pot_here" := .inl (kl_L_line_0 h)
theorem nv_L_line_0 {X : Cx} {pos : Pos} (hN : X.N = N_L_line) (h : X.env.scope = defScope s_L_line) : PE X (.Name "_law_pot_here" pos) (tVar 0) := pe_var (by rw [hN]; rfl) (.inl (kl_L_line_0 h))
theorem gl_L_line_L_letter {X : Cx} (h : X.env.scope = defScope s_L_line) : Gl X "_law_letter" := by unfold Gl PySem.Env.kindOf; rw [h]; decide +kernel
theorem gl_L_line_L_number {X : Cx} (h : X.env.scope = defScope s_L_line) : Gl X "_law_number" := by unfold Gl PySem.Env.kindOf; rw [h]; decide +kernel
theorem gl_L_line_max {X : Cx} (h : X.env.scope = defScope s_L_line) : Gl X "max" := by unfold Gl PySem.Env.kindOf; rw [h]; decide +kernel
theorem der_L_line {P : Program} {w : World} {K : PySem.W.Frag} {mg : Str → Option Value} {base : Heap} {cc : Cl} (bn : Bn mg) (cn : Cn mg) (ce : Ce K mg cc) {fa_L_letter : Addr} {fd_L_letter : FuncData} (I_L_letter : FnI P w K mg base "_law_letter" 2 ["_law_pot_here"] (spM (GG K cc) XR0 1 P_L_letter) fa_L_letter fd_L_letter) {fa_L_number : Addr} {fd_L_number : FuncData} (I_L_number : FnI P w K mg base "_law_number" 3 ["_law_pot_here"] (spM (GG K cc) XR0 1 P_L_number) fa_L_number fd_L_number) {f : Addr} (cdv : Value) (A : Around) (outer : List PySem.Env) (s : Shared) (H : Hp) (E : XK) (hr : Room 3 (A.deeper (envOfC "_law_line" (defScope s_L_line) s.heap.objs.size f cdv))) (hg : A.guards = some []) :
    PSs (cxOf (L2.CX P w) P w K mg base N_L_line "_law_line" (defScope s_L_line) f cdv A outer s H E) (defBody s_L_line) (tEx (GG K cc) XR0 (fun c d _ H => E c d H) [0] g_L_line) := by
  have B : Bx (GG K cc) (fun c d _ H => E c d H) 3 (cxOf (L2.CX P w) P w K mg base N_L_line "_law_line" (defScope s_L_line) f cdv A outer s H E) := Bx.of rfl sc_L_line.nd hr hg
  unfold g_L_line
  exact (es_one (es_ret (ev_tup (ea_cons (ev_callM I_L_letter.fn (B.room.mono (by decide)) B.gu B.tk (gl_L_line_L_letter rfl) I_L_letter.mg I_L_letter.kp I_L_letter.bd (nv_L_line_0 rfl rfl) ea_nil) (ea_cons (ev_callM I_L_number.fn (B.room.mono (by decide)) B.gu B.tk (gl_L_line_L_number rfl) I_L_number.mg I_L_number.kp I_L_number.bd (nv_L_line_0 rfl rfl) ea_nil) (ea_cons (ev_callB2 (call_max2 B.calm) o_max (gl_L_line_max rfl) bn.b_max (by decide +kernel) ev_int (ev_callM I_L_number.fn (B.room.mono (by decide)) B.gu B.tk (gl_L_line_L_number rfl) I_L_number.mg I_L_number.kp I_L_number.bd (nv_L_line_0 rfl rfl) ea_nil)) ea_nil))))))
abbrev s_L_tickets : Stmt := topS 25
abbrev N_L_tickets : List Str := ["_law_pot_here", "_law_rail", "_law_other", "_law_spin", "_law_far_here", "_law_near", "_law_most", "_law_early", "_law_some", "_law_letter_here", "_law_number_here"]
theorem sc_L_tickets : FnScope N_L_tickets ["_law_pot_here", "_law_rail", "_law_other", "_law_spin"] (defScope s_L_tickets) := ⟨rfl, rfl, rfl, by decide +kernel, rfl, by decide +kernel, by decide +kernel⟩
theorem kl_L_tickets_0 {X : Cx} (h : X.env.scope = defScope s_L_tickets) : X.env.scope.names.lookup ("_law_pot_here" : Str) = some .local := by rw [h]; decide +kernel
theorem lc_L_tickets_0 {X : Cx} (h : X.env.scope = defScope s_L_tickets) : Loc X.env.scope "_law_pot_here" := .inl (kl_L_tickets_0 h)
theorem nv_L_tickets_0 {X : Cx} {pos : Pos} (hN : X.N = N_L_tickets) (h : X.env.scope = defScope s_L_tickets) : PE X (.Name "_law_pot_here" pos) (tVar 0) := pe_var (by rw [hN]; rfl) (.inl (kl_L_tickets_0 h))
theorem kl_L_tickets_1 {X : Cx} (h : X.env.scope = defScope s_L_tickets) : X.env.scope.names.lookup ("_law_rail" : Str) = some .local := by rw [h]; decide +kernel
theorem lc_L_tickets_1 {X : Cx} (h : X.env.scope = defScope s_L_tickets) : Loc X.env.scope "_law_rail" := .inl (kl_L_tickets_1 h)
theorem nv_L_tickets_1 {X : Cx} {pos : Pos} (hN : X.N = N_L_tickets) (h : X.env.scope = defScope s_L_tickets) : PE X (.Name "_law_rail" pos) (tVar 1) := pe_var (by rw [hN]; rfl) (.inl (kl_L_tickets_1 h))
theorem kl_L_tickets_2 {X : Cx} (h : X.env.scope = defScope s_L_tickets) : X.env.scope.names.lookup ("_law_other" : Str) = some .local := by rw [h]; decide +kernel
theorem lc_L_tickets_2 {X : Cx} (h : X.env.scope = defScope s_L_tickets) : Loc X.env.scope "_law_other" := .inl (kl_L_tickets_2 h)
theorem nv_L_tickets_2 {X : Cx} {pos : Pos} (hN : X.N = N_L_tickets) (h : X.env.scope = defScope s_L_tickets) : PE X (.Name "_law_other" pos) (tVar 2) := pe_var (by rw [hN]; rfl) (.inl (kl_L_tickets_2 h))
theorem kl_L_tickets_3 {X : Cx} (h : X.env.scope = defScope s_L_tickets) : X.env.scope.names.lookup ("_law_spin" : Str) = some .local := by rw [h]; decide +kernel
theorem lc_L_tickets_3 {X : Cx} (h : X.env.scope = defScope s_L_tickets) : Loc X.env.scope "_law_spin" := .inl (kl_L_tickets_3 h)
theorem nv_L_tickets_3 {X : Cx} {pos : Pos} (hN : X.N = N_L_tickets) (h : X.env.scope = defScope s_L_tickets) : PE X (.Name "_law_spin" pos) (tVar 3) := pe_var (by rw [hN]; rfl) (.inl (kl_L_tickets_3 h))
theorem kl_L_tickets_4 {X : Cx} (h : X.env.scope = defScope s_L_tickets) : X.env.scope.names.lookup ("_law_far_here" : Str) = some .local := by rw [h]; decide +kernel
theorem lc_L_tickets_4 {X : Cx} (h : X.env.scope = defScope s_L_tickets) : Loc X.env.scope "_law_far_here" := .inl (kl_L_tickets_4 h)
theorem nv_L_tickets_4 {X : Cx} {pos : Pos} (hN : X.N = N_L_tickets) (h : X.env.scope = defScope s_L_tickets) : PE X (.Name "_law_far_here" pos) (tVar 4) := pe_var (by rw [hN]; rfl) (.inl (kl_L_tickets_4 h))
theorem kl_L_tickets_5 {X : Cx} (h : X.env.scope = defScope s_L_tickets) : X.env.scope.names.lookup ("_law_near" : Str) = some .local := by rw [h]; decide +kernel
theorem lc_L_tickets_5 {X : Cx} (h : X.env.scope = defScope s_L_tickets) : Loc X.env.scope "_law_near" := .inl (kl_L_tickets_5 h)
theorem nv_L_tickets_5 {X : Cx} {pos : Pos} (hN : X.N = N_L_tickets) (h : X.env.scope = defScope s_L_tickets) : PE X (.Name "_law_near" pos) (tVar 5) := pe_var (by rw [hN]; rfl) (.inl (kl_L_tickets_5 h))
theorem kl_L_tickets_6 {X : Cx} (h : X.env.scope = defScope s_L_tickets) : X.env.scope.names.lookup ("_law_most" : Str) = some .cell := by rw [h]; decide +kernel
theorem lc_L_tickets_6 {X : Cx} (h : X.env.scope = defScope s_L_tickets) : Loc X.env.scope "_law_most" := .inr (kl_L_tickets_6 h)
theorem nv_L_tickets_6 {X : Cx} {pos : Pos} (hN : X.N = N_L_tickets) (h : X.env.scope = defScope s_L_tickets) : PE X (.Name "_law_most" pos) (tVar 6) := pe_var (by rw [hN]; rfl) (.inr (.inl (kl_L_tickets_6 h)))
theorem kl_L_tickets_7 {X : Cx} (h : X.env.scope = defScope s_L_tickets) : X.env.scope.names.lookup ("_law_early" : Str) = some .local := by rw [h]; decide +kernel
theorem lc_L_tickets_7 {X : Cx} (h : X.env.scope = defScope s_L_tickets) : Loc X.env.scope "_law_early" := .inl (kl_L_tickets_7 h)
theorem nv_L_tickets_7 {X : Cx} {pos : Pos} (hN : X.N = N_L_tickets) (h : X.env.scope = defScope s_L_tickets) : PE X (.Name "_law_early" pos) (tVar 7) := pe_var (by rw [hN]; rfl) (.inl (kl_L_tickets_7 h))
theorem kl_L_tickets_8 {X : Cx} (h : X.env.scope = defScope s_L_tickets) : X.env.scope.names.lookup ("_law_some" : Str) = some .local := by rw [h]; decide +kernel
theorem lc_L_tickets_8 {X : Cx} (h : X.env.scope = defScope s_L_tickets) : Loc X.env.scope "_law_some" := .inl (kl_L_tickets_8 h)
theorem nv_L_tickets_8 {X : Cx} {pos : Pos} (hN : X.N = N_L_tickets) (h : X.env.scope = defScope s_L_tickets) : PE X (.Name "_law_some" pos) (tVar 8) := pe_var (by rw [hN]; rfl) (.inl (kl_L_tickets_8 h))
theorem gl_L_tickets_L_digit {X : Cx} (h : X.env.scope = defScope s_L_tickets) : Gl X "_law_digit" := by unfold Gl PySem.Env.kindOf; rw [h]; decide +kernel
theorem gl_L_tickets_L_number {X : Cx} (h : X.env.scope = defScope s_L_tickets) : Gl X "_law_number" := by unfold Gl PySem.Env.kindOf; rw [h]; decide +kernel
theorem gl_L_tickets_max {X : Cx} (h : X.env.scope = defScope s_L_tickets) : Gl X "max" := by unfold Gl PySem.Env.kindOf; rw [h]; decide +kernel
theorem der_L_tickets {P : Program} {w : World} {K : PySem.W.Frag} {mg : Str → Option Value} {base : Heap} {cc : Cl} (bn : Bn mg) (cn : Cn mg) (ce : Ce K mg cc) {fa_L_digit : Addr} {fd_L_digit : FuncData} (I_L_digit : FnI P w K mg base "_law_digit" 1 ["_law_pot_here", "_law_many"] (spM (GG K cc) XR0 2 P_L_digit) fa_L_digit fd_L_digit) {fa_L_number : Addr} {fd_L_number : FuncData} (I_L_number : FnI P w K mg base "_law_number" 3 ["_law_pot_here"] (spM (GG K cc) XR0 1 P_L_number) fa_L_number fd_L_number) {f : Addr} (cdv : Value) (A : Around) (outer : List PySem.Env) (s : Shared) (H : Hp) (E : XK) (hr : Room 3 (A.deeper (envOfC "_law_tickets" (defScope s_L_tickets) s.heap.objs.size f cdv))) (hg : A.guards = some []) :
    PSs (cxOf (L2.CX P w) P w K mg base N_L_tickets "_law_tickets" (defScope s_L_tickets) f cdv A outer s H E) (defBody s_L_tickets) (tEx (GG K cc) XR0 (fun c d _ H => E c d H) [0] g_L_tickets) := by
  have B : Bx (GG K cc) (fun c d _ H => E c d H) 3 (cxOf (L2.CX P w) P w K mg base N_L_tickets "_law_tickets" (defScope s_L_tickets) f cdv A outer s H E) := Bx.of rfl sc_L_tickets.nd hr hg
  unfold g_L_tickets ce_L_tickets_1 cc_L_tickets_1 ct_L_tickets_1
  exact (es_cons (es_set (i := 4) B.nd rfl (lc_L_tickets_4 rfl) (ev_op op_addAll o_add (ev_ix ix_seq o_ix (ev_name (nv_L_tickets_1 rfl rfl)) ev_int (fun _ _ => rfl)) (ev_op op_mulW o_mul (ev_name (nv_L_tickets_3 rfl rfl)) (ev_ix ix_seq o_ix (ev_name (nv_L_tickets_1 rfl rfl)) ev_int (fun _ _ => rfl))))) (es_cons (es_set (i := 5) B.nd rfl (lc_L_tickets_5 rfl) (ev_callB2 (call_max2 B.calm) o_max (gl_L_tickets_max rfl) bn.b_max (by decide +kernel) ev_int (ev_op op_sub o_sub (ev_op op_addAll o_add (ev_name (nv_L_tickets_4 rfl rfl)) (ev_callM I_L_digit.fn (B.room.mono (by decide)) B.gu B.tk (gl_L_tickets_L_digit rfl) I_L_digit.mg I_L_digit.kp I_L_digit.bd (nv_L_tickets_0 rfl rfl) (ea_cons ev_int ea_nil))) ev_int))) (es_cons (es_set (i := 6) B.nd rfl (lc_L_tickets_6 rfl) (ev_op op_sub o_sub (ev_op op_pow o_pow ev_int ev_int) ev_int)) (es_cons (es_set (i := 7) B.nd rfl (lc_L_tickets_7 rfl) (ev_callB2 (call_max2 B.calm) o_max (gl_L_tickets_max rfl) bn.b_max (by decide +kernel) ev_int (ev_op op_addAll o_add (ev_op op_sub o_sub (ev_ix ix_seq o_ix (ev_name (nv_L_tickets_1 rfl rfl)) ev_int (fun _ _ => rfl)) (ev_op op_mulW o_mul (ev_callM I_L_digit.fn (B.room.mono (by decide)) B.gu B.tk (gl_L_tickets_L_digit rfl) I_L_digit.mg I_L_digit.kp I_L_digit.bd (nv_L_tickets_0 rfl rfl) (ea_cons ev_int ea_nil)) (ev_ix ix_seq o_ix (ev_name (nv_L_tickets_1 rfl rfl)) ev_int (fun _ _ => rfl)))) (ev_callM I_L_digit.fn (B.room.mono (by decide)) B.gu B.tk (gl_L_tickets_L_digit rfl) I_L_digit.mg I_L_digit.kp I_L_digit.bd (nv_L_tickets_0 rfl rfl) (ea_cons ev_int ea_nil))))) (es_cons (es_set (i := 8) B.nd rfl (lc_L_tickets_8 rfl) (ev_lst (ea_cons (ev_tup (ea_cons (ev_ix ix_seq o_ix (ev_name (nv_L_tickets_1 rfl rfl)) ev_int (fun _ _ => rfl)) (ea_cons (ev_name (nv_L_tickets_5 rfl rfl)) ea_nil))) (ea_cons (ev_tup (ea_cons (ev_ix ix_seq o_ix (ev_name (nv_L_tickets_1 rfl rfl)) ev_int (fun _ _ => rfl)) (ea_cons (ev_name (nv_L_tickets_7 rfl rfl)) ea_nil))) (ea_cons (ev_tup (ea_cons (ev_ix ix_seq o_ix (ev_name (nv_L_tickets_1 rfl rfl)) ev_int (fun _ _ => rfl)) (ea_cons (ev_callM I_L_number.fn (B.room.mono (by decide)) B.gu B.tk (gl_L_tickets_L_number rfl) I_L_number.mg I_L_number.kp I_L_number.bd (nv_L_tickets_0 rfl rfl) ea_nil) ea_nil))) (ea_cons (ev_tup (ea_cons (ev_ix ix_seq o_ix (ev_name (nv_L_tickets_2 rfl rfl)) ev_int (fun _ _ => rfl)) (ea_cons (ev_name (nv_L_tickets_4 rfl rfl)) ea_nil))) (ea_cons (ev_tup (ea_cons (ev_ix ix_seq o_ix (ev_name (nv_L_tickets_1 rfl rfl)) ev_int (fun _ _ => rfl)) (ea_cons (ev_op op_fdivW o_div (ev_name (nv_L_tickets_4 rfl rfl)) ev_int) ea_nil))) ea_nil))))))) (es_cons (es_set (i := 8) B.nd rfl (lc_L_tickets_8 rfl) (ev_op op_addAll o_add (ev_name (nv_L_tickets_8 rfl rfl)) (ev_lst (ea_cons (ev_tup (ea_cons (ev_ix ix_seq o_ix (ev_name (nv_L_tickets_1 rfl rfl)) ev_int (fun _ _ => rfl)) (ea_cons (ev_callB2 (call_max2 B.calm) o_max (gl_L_tickets_max rfl) bn.b_max (by decide +kernel) ev_int (ev_op op_sub o_sub (ev_ix ix_seq o_ix (ev_name (nv_L_tickets_1 rfl rfl)) ev_int (fun _ _ => rfl)) ev_int)) ea_nil))) (ea_cons (ev_tup (ea_cons (ev_ix ix_seq o_ix (ev_name (nv_L_tickets_2 rfl rfl)) ev_int (fun _ _ => rfl)) (ea_cons (ev_ix ix_seq o_ix (ev_name (nv_L_tickets_2 rfl rfl)) ev_int (fun _ _ => rfl)) ea_nil))) ea_nil))))) (es_one (es_ret (ev_lc B.calm B.nd (ei_seq B.kk (ev_name (nv_L_tickets_8 rfl rfl))) (blkOk_by (N := N_L_tickets) (sc := defScope s_L_tickets) (own := [("_law_letter_here", 9), ("_law_number_here", 10)]) (by decide +kernel)) (fun s1 H1 C1 cl1 fp1 => (eg_tup (B.blk s1 H1 _ _ fp1).calm (B.blk s1 H1 _ _ fp1).kk (egs_cons (eg_name (pg_name (i := 9) (B.blk s1 H1 _ _ fp1).nd rfl (.inl (by kernel_rfl)))) (egs_cons (eg_name (pg_name (i := 10) (B.blk s1 H1 _ _ fp1).nd rfl (.inl (by kernel_rfl)))) egs_nil)))) (fun s1 H1 C1 cl1 fp1 => ets_nil) (fun s1 H1 C1 cl1 fp1 => (ev_tup (ea_cons (ev_name (pe_var (i := 9) rfl (.inl (by kernel_rfl)))) (ea_cons (ev_callB2 (call_min2 (B.blk s1 H1 _ _ fp1).calm) o_min (by unfold Gl; kernel_rfl) bn.b_min (by decide +kernel) (ev_name (pe_var (i := 6) rfl (.inr (.inl (by kernel_rfl))))) (ev_name (pe_var (i := 10) rfl (.inl (by kernel_rfl))))) ea_nil)))) (show ∀ j, j < 11 → j ∉ [9, 10] → j ∈ [0, 1, 2, 3, 4, 5, 6, 7, 8] by decide))))))))))
abbrev s_is_whole : Stmt := topS 12
abbrev N_is_whole : List Str := ["thing"]
theorem sc_is_whole : FnScope N_is_whole ["thing"] (defScope s_is_whole) := ⟨rfl, rfl, rfl, by decide +kernel, rfl, by decide +kernel, by decide +kernel⟩
theorem kl_is_whole_0 {X : Cx} (h : X.env.scope = defScope s_is_whole) : X.env.scope.names.lookup ("thing" : Str) = some .local := by rw [h]; decide +kernel
theorem lc_is_whole_0 {X : Cx} (h : X.env.scope = defScope s_is_whole) : Loc X.env.scope "thing" := .inl (kl_is_whole_0 h)
theorem nv_is_whole_0 {X : Cx} {pos : Pos} (hN : X.N = N_is_whole) (h : X.env.scope = defScope s_is_whole) : PE X (.Name "thing" pos) (tVar 0) := pe_var (by rw [hN]; rfl) (.inl (kl_is_whole_0 h))
theorem gl_is_whole_bool {X : Cx} (h : X.env.scope = defScope s_is_whole) : Gl X "bool" := by unfold Gl PySem.Env.kindOf; rw [h]; decide +kernel
theorem gl_is_whole_int {X : Cx} (h : X.env.scope = defScope s_is_whole) : Gl X "int" := by unfold Gl PySem.Env.kindOf; rw [h]; decide +kernel
theorem gl_is_whole_isinstance {X : Cx} (h : X.env.scope = defScope s_is_whole) : Gl X "isinstance" := by unfold Gl PySem.Env.kindOf; rw [h]; decide +kernel
theorem der_is_whole {P : Program} {w : World} {K : PySem.W.Frag} {mg : Str → Option Value} {base : Heap} {cc : Cl} (bn : Bn mg) (cn : Cn mg) (ce : Ce K mg cc)  {f : Addr} (cdv : Value) (A : Around) (outer : List PySem.Env) (s : Shared) (H : Hp) (E : XK) (hr : Room 0 (A.deeper (envOfC "is_whole" (defScope s_is_whole) s.heap.objs.size f cdv))) (hg : A.guards = some []) :
    PSs (cxOf (L2.CX P w) P w K mg base N_is_whole "is_whole" (defScope s_is_whole) f cdv A outer s H E) (defBody s_is_whole) (tEx (GG K cc) XR0 (fun c d _ H => E c d H) [] g_is_whole) := by
  have B : Bx (GG K cc) (fun c d _ H => E c d H) 0 (cxOf (L2.CX P w) P w K mg base N_is_whole "is_whole" (defScope s_is_whole) f cdv A outer s H E) := Bx.of rfl sc_is_whole.nd hr hg
  unfold g_is_whole
  exact (es_one (es_ret (ev_and (ev_isi (k := 0) B.kk (gl_is_whole_isinstance rfl) bn.b_isinstance (by decide +kernel) (gl_is_whole_int rfl) bn.b_int (by decide +kernel) (ev_name (nv_is_whole_0 rfl rfl))) (ev_and (ev_not (ev_isi (k := 0) B.kk (gl_is_whole_isinstance rfl) bn.b_isinstance (by decide +kernel) (gl_is_whole_bool rfl) bn.b_bool (by decide +kernel) (ev_name (nv_is_whole_0 rfl rfl)))) (ev_one (ev_cmp op_ge o_ge (ev_name (nv_is_whole_0 rfl rfl)) ev_int (nomark _)))))))
abbrev s_told_at : Stmt := topS 13
abbrev N_told_at : List Str := ["line", "turn", "letter", "first", "step"]
theorem sc_told_at : FnScope N_told_at ["line", "turn"] (defScope s_told_at) := ⟨rfl, rfl, rfl, by decide +kernel, rfl, by decide +kernel, by decide +kernel⟩
theorem kl_told_at_0 {X : Cx} (h : X.env.scope = defScope s_told_at) : X.env.scope.names.lookup ("line" : Str) = some .local := by rw [h]; decide +kernel
theorem lc_told_at_0 {X : Cx} (h : X.env.scope = defScope s_told_at) : Loc X.env.scope "line" := .inl (kl_told_at_0 h)
theorem nv_told_at_0 {X : Cx} {pos : Pos} (hN : X.N = N_told_at) (h : X.env.scope = defScope s_told_at) : PE X (.Name "line" pos) (tVar 0) := pe_var (by rw [hN]; rfl) (.inl (kl_told_at_0 h))
theorem kl_told_at_1 {X : Cx} (h : X.env.scope = defScope s_told_at) : X.env.scope.names.lookup ("turn" : Str) = some .local := by rw [h]; decide +kernel
theorem lc_told_at_1 {X : Cx} (h : X.env.scope = defScope s_told_at) : Loc X.env.scope "turn" := .inl (kl_told_at_1 h)
theorem nv_told_at_1 {X : Cx} {pos : Pos} (hN : X.N = N_told_at) (h : X.env.scope = defScope s_told_at) : PE X (.Name "turn" pos) (tVar 1) := pe_var (by rw [hN]; rfl) (.inl (kl_told_at_1 h))
theorem kl_told_at_2 {X : Cx} (h : X.env.scope = defScope s_told_at) : X.env.scope.names.lookup ("letter" : Str) = some .local := by rw [h]; decide +kernel
theorem lc_told_at_2 {X : Cx} (h : X.env.scope = defScope s_told_at) : Loc X.env.scope "letter" := .inl (kl_told_at_2 h)
theorem nv_told_at_2 {X : Cx} {pos : Pos} (hN : X.N = N_told_at) (h : X.env.scope = defScope s_told_at) : PE X (.Name "letter" pos) (tVar 2) := pe_var (by rw [hN]; rfl) (.inl (kl_told_at_2 h))
theorem kl_told_at_3 {X : Cx} (h : X.env.scope = defScope s_told_at) : X.env.scope.names.lookup ("first" : Str) = some .local := by rw [h]; decide +kernel
theorem lc_told_at_3 {X : Cx} (h : X.env.scope = defScope s_told_at) : Loc X.env.scope "first" := .inl (kl_told_at_3 h)
theorem nv_told_at_3 {X : Cx} {pos : Pos} (hN : X.N = N_told_at) (h : X.env.scope = defScope s_told_at) : PE X (.Name "first" pos) (tVar 3) := pe_var (by rw [hN]; rfl) (.inl (kl_told_at_3 h))
theorem kl_told_at_4 {X : Cx} (h : X.env.scope = defScope s_told_at) : X.env.scope.names.lookup ("step" : Str) = some .local := by rw [h]; decide +kernel
theorem lc_told_at_4 {X : Cx} (h : X.env.scope = defScope s_told_at) : Loc X.env.scope "step" := .inl (kl_told_at_4 h)
theorem nv_told_at_4 {X : Cx} {pos : Pos} (hN : X.N = N_told_at) (h : X.env.scope = defScope s_told_at) : PE X (.Name "step" pos) (tVar 4) := pe_var (by rw [hN]; rfl) (.inl (kl_told_at_4 h))
theorem gl_told_at_NoNumber {X : Cx} (h : X.env.scope = defScope s_told_at) : Gl X "NoNumber" := by unfold Gl PySem.Env.kindOf; rw [h]; decide +kernel
theorem gl_told_at_is_whole {X : Cx} (h : X.env.scope = defScope s_told_at) : Gl X "is_whole" := by unfold Gl PySem.Env.kindOf; rw [h]; decide +kernel
theorem der_told_at {P : Program} {w : World} {K : PySem.W.Frag} {mg : Str → Option Value} {base : Heap} {cc : Cl} (bn : Bn mg) (cn : Cn mg) (ce : Ce K mg cc) {fa_is_whole : Addr} {fd_is_whole : FuncData} (I_is_whole : FnI P w K mg base "is_whole" 1 ["thing"] (spP (GG K cc) XR0 1 P_is_whole) fa_is_whole fd_is_whole) {f : Addr} (cdv : Value) (A : Around) (outer : List PySem.Env) (s : Shared) (H : Hp) (E : XK) (hr : Room 1 (A.deeper (envOfC "told_at" (defScope s_told_at) s.heap.objs.size f cdv))) (hg : A.guards = some []) :
    PSs (cxOf (L2.CX P w) P w K mg base N_told_at "told_at" (defScope s_told_at) f cdv A outer s H E) (defBody s_told_at) (tEx (GG K cc) XR0 (fun c d _ H => E c d H) [] g_told_at) := by
  have B : Bx (GG K cc) (fun c d _ H => E c d H) 1 (cxOf (L2.CX P w) P w K mg base N_told_at "told_at" (defScope s_told_at) f cdv A outer s H E) := Bx.of rfl sc_told_at.nd hr hg
  unfold g_told_at
  exact (es_cons (es_if (et_not (et_val (ev_call I_is_whole.fn (B.room.mono (by decide)) B.gu B.tk (gl_told_at_is_whole rfl) I_is_whole.mg I_is_whole.kp I_is_whole.bd (ea_cons (ev_name (nv_told_at_1 rfl rfl)) ea_nil)))) (es_one (es_raise B.calm B.tk PySem.F.excBase_ValueError ce.x_NoNumber ce.g_NoNumber ce.k_NoNumber (raises_own ce.b_NoNumber ce.t_NoNumber) (gl_told_at_NoNumber rfl) ⟨_, rfl⟩)) es_nil) (es_cons (es_asg (ev_name (nv_told_at_0 rfl rfl)) (eg_tup B.calm B.kk (egs_cons (eg_name (pg_name (i := 2) B.nd rfl (lc_told_at_2 rfl))) (egs_cons (eg_name (pg_name (i := 3) B.nd rfl (lc_told_at_3 rfl))) (egs_cons (eg_name (pg_name (i := 4) B.nd rfl (lc_told_at_4 rfl))) egs_nil))))) (es_one (es_ret (ev_tup (ea_cons (ev_name (nv_told_at_2 rfl rfl)) (ea_cons (ev_op op_addAll o_add (ev_name (nv_told_at_3 rfl rfl)) (ev_op op_mulW o_mul (ev_name (nv_told_at_1 rfl rfl)) (ev_name (nv_told_at_4 rfl rfl)))) ea_nil)))))))
abbrev s_turn_of : Stmt := topS 14
abbrev N_turn_of : List Str := ["line", "ticket", "letter", "first", "step", "own", "number", "turn", "rest"]
theorem sc_turn_of : FnScope N_turn_of ["line", "ticket"] (defScope s_turn_of) := ⟨rfl, rfl, rfl, by decide +kernel, rfl, by decide +kernel, by decide +kernel⟩
theorem kl_turn_of_0 {X : Cx} (h : X.env.scope = defScope s_turn_of) : X.env.scope.names.lookup ("line" : Str) = some .local := by rw [h]; decide +kernel
theorem lc_turn_of_0 {X : Cx} (h : X.env.scope = defScope s_turn_of) : Loc X.env.scope "line" := .inl (kl_turn_of_0 h)
theorem nv_turn_of_0 {X : Cx} {pos : Pos} (hN : X.N = N_turn_of) (h : X.env.scope = defScope s_turn_of) : PE X (.Name "line" pos) (tVar 0) := pe_var (by rw [hN]; rfl) (.inl (kl_turn_of_0 h))
theorem kl_turn_of_1 {X : Cx} (h : X.env.scope = defScope s_turn_of) : X.env.scope.names.lookup ("ticket" : Str) = some .local := by rw [h]; decide +kernel
theorem lc_turn_of_1 {X : Cx} (h : X.env.scope = defScope s_turn_of) : Loc X.env.scope "ticket" := .inl (kl_turn_of_1 h)
theorem nv_turn_of_1 {X : Cx} {pos : Pos} (hN : X.N = N_turn_of) (h : X.env.scope = defScope s_turn_of) : PE X (.Name "ticket" pos) (tVar 1) := pe_var (by rw [hN]; rfl) (.inl (kl_turn_of_1 h))
theorem kl_turn_of_2 {X : Cx} (h : X.env.scope = defScope s_turn_of) : X.env.scope.names.lookup ("letter" : Str) = some .local := by rw [h]; decide +kernel
theorem lc_turn_of_2 {X : Cx} (h : X.env.scope = defScope s_turn_of) : Loc X.env.scope "letter" := .inl (kl_turn_of_2 h)
theorem nv_turn_of_2 {X : Cx} {pos : Pos} (hN : X.N = N_turn_of) (h : X.env.scope = defScope s_turn_of) : PE X (.Name "letter" pos) (tVar 2) := pe_var (by rw [hN]; rfl) (.inl (kl_turn_of_2 h))
theorem kl_turn_of_3 {X : Cx} (h : X.env.scope = defScope s_turn_of) : X.env.scope.names.lookup ("first" : Str) = some .local := by rw [h]; decide +kernel
theorem lc_turn_of_3 {X : Cx} (h : X.env.scope = defScope s_turn_of) : Loc X.env.scope "first" := .inl (kl_turn_of_3 h)
theorem nv_turn_of_3 {X : Cx} {pos : Pos} (hN : X.N = N_turn_of) (h : X.env.scope = defScope s_turn_of) : PE X (.Name "first" pos) (tVar 3) := pe_var (by rw [hN]; rfl) (.inl (kl_turn_of_3 h))
theorem kl_turn_of_4 {X : Cx} (h : X.env.scope = defScope s_turn_of) : X.env.scope.names.lookup ("step" : Str) = some .local := by rw [h]; decide +kernel
theorem lc_turn_of_4 {X : Cx} (h : X.env.scope = defScope s_turn_of) : Loc X.env.scope "step" := .inl (kl_turn_of_4 h)
theorem nv_turn_of_4 {X : Cx} {pos : Pos} (hN : X.N = N_turn_of) (h : X.env.scope = defScope s_turn_of) : PE X (.Name "step" pos) (tVar 4) := pe_var (by rw [hN]; rfl) (.inl (kl_turn_of_4 h))
theorem kl_turn_of_5 {X : Cx} (h : X.env.scope = defScope s_turn_of) : X.env.scope.names.lookup ("own" : Str) = some .local := by rw [h]; decide +kernel
theorem lc_turn_of_5 {X : Cx} (h : X.env.scope = defScope s_turn_of) : Loc X.env.scope "own" := .inl (kl_turn_of_5 h)
theorem nv_turn_of_5 {X : Cx} {pos : Pos} (hN : X.N = N_turn_of) (h : X.env.scope = defScope s_turn_of) : PE X (.Name "own" pos) (tVar 5) := pe_var (by rw [hN]; rfl) (.inl (kl_turn_of_5 h))
theorem kl_turn_of_6 {X : Cx} (h : X.env.scope = defScope s_turn_of) : X.env.scope.names.lookup ("number" : Str) = some .local := by rw [h]; decide +kernel
theorem lc_turn_of_6 {X : Cx} (h : X.env.scope = defScope s_turn_of) : Loc X.env.scope "number" := .inl (kl_turn_of_6 h)
theorem nv_turn_of_6 {X : Cx} {pos : Pos} (hN : X.N = N_turn_of) (h : X.env.scope = defScope s_turn_of) : PE X (.Name "number" pos) (tVar 6) := pe_var (by rw [hN]; rfl) (.inl (kl_turn_of_6 h))
theorem kl_turn_of_7 {X : Cx} (h : X.env.scope = defScope s_turn_of) : X.env.scope.names.lookup ("turn" : Str) = some .local := by rw [h]; decide +kernel
theorem lc_turn_of_7 {X : Cx} (h : X.env.scope = defScope s_turn_of) : Loc X.env.scope "turn" := .inl (kl_turn_of_7 h)
theorem nv_turn_of_7 {X : Cx} {pos : Pos} (hN : X.N = N_turn_of) (h : X.env.scope = defScope s_turn_of) : PE X (.Name "turn" pos) (tVar 7) := pe_var (by rw [hN]; rfl) (.inl (kl_turn_of_7 h))
theorem kl_turn_of_8 {X : Cx} (h : X.env.scope = defScope s_turn_of) : X.env.scope.names.lookup ("rest" : Str) = some .local := by rw [h]; decide +kernel
theorem lc_turn_of_8 {X : Cx} (h : X.env.scope = defScope s_turn_of) : Loc X.env.scope "rest" := .inl (kl_turn_of_8 h)
theorem nv_turn_of_8 {X : Cx} {pos : Pos} (hN : X.N = N_turn_of) (h : X.env.scope = defScope s_turn_of) : PE X (.Name "rest" pos) (tVar 8) := pe_var (by rw [hN]; rfl) (.inl (kl_turn_of_8 h))
theorem gl_turn_of_divmod {X : Cx} (h : X.env.scope = defScope s_turn_of) : Gl X "divmod" := by unfold Gl PySem.Env.kindOf; rw [h]; decide +kernel
theorem der_turn_of {P : Program} {w : World} {K : PySem.W.Frag} {mg : Str → Option Value} {base : Heap} {cc : Cl} (bn : Bn mg) (cn : Cn mg) (ce : Ce K mg cc)  {f : Addr} (cdv : Value) (A : Around) (outer : List PySem.Env) (s : Shared) (H : Hp) (E : XK) (hr : Room 0 (A.deeper (envOfC "turn_of" (defScope s_turn_of) s.heap.objs.size f cdv))) (hg : A.guards = some []) :
    PSs (cxOf (L2.CX P w) P w K mg base N_turn_of "turn_of" (defScope s_turn_of) f cdv A outer s H E) (defBody s_turn_of) (tEx (GG K cc) XR0 (fun c d _ H => E c d H) [] g_turn_of) := by
  have B : Bx (GG K cc) (fun c d _ H => E c d H) 0 (cxOf (L2.CX P w) P w K mg base N_turn_of "turn_of" (defScope s_turn_of) f cdv A outer s H E) := Bx.of rfl sc_turn_of.nd hr hg
  unfold g_turn_of
  exact (es_cons (es_asg (ev_name (nv_turn_of_0 rfl rfl)) (eg_tup B.calm B.kk (egs_cons (eg_name (pg_name (i := 2) B.nd rfl (lc_turn_of_2 rfl))) (egs_cons (eg_name (pg_name (i := 3) B.nd rfl (lc_turn_of_3 rfl))) (egs_cons (eg_name (pg_name (i := 4) B.nd rfl (lc_turn_of_4 rfl))) egs_nil))))) (es_cons (es_asg (ev_name (nv_turn_of_1 rfl rfl)) (eg_tup B.calm B.kk (egs_cons (eg_name (pg_name (i := 5) B.nd rfl (lc_turn_of_5 rfl))) (egs_cons (eg_name (pg_name (i := 6) B.nd rfl (lc_turn_of_6 rfl))) egs_nil)))) (es_cons (es_if (PW.pt (ew_or (et_cmp (op_neT B.un64) o_ne (ev_name (nv_turn_of_5 rfl rfl)) (ev_name (nv_turn_of_2 rfl rfl)) (nomark _)) (ew_or1 (et_cmp op_lt o_lt (ev_name (nv_turn_of_6 rfl rfl)) (ev_name (nv_turn_of_3 rfl rfl)) (nomark _))))) (es_one (es_ret ev_non)) es_nil) (es_cons (es_asg (ev_callB2 call_divmodW o_divmod (gl_turn_of_divmod rfl) bn.b_divmod (by decide +kernel) (ev_op op_sub o_sub (ev_name (nv_turn_of_6 rfl rfl)) (ev_name (nv_turn_of_3 rfl rfl))) (ev_name (nv_turn_of_4 rfl rfl))) (eg_tup B.calm B.kk (egs_cons (eg_name (pg_name (i := 7) B.nd rfl (lc_turn_of_7 rfl))) (egs_cons (eg_name (pg_name (i := 8) B.nd rfl (lc_turn_of_8 rfl))) egs_nil)))) (es_one (es_ret (ev_if (et_cmp (op_eqT B.un64) o_eq (ev_name (nv_turn_of_8 rfl rfl)) ev_int (nomark _)) (ev_name (nv_turn_of_7 rfl rfl)) ev_non)))))))
abbrev s_L_told : Stmt := topS 22
abbrev N_L_told : List Str := ["_law_rail", "_law_spin", "_law_due", "_law_found"]
theorem sc_L_told : FnScope N_L_told ["_law_rail", "_law_spin"] (defScope s_L_told) := ⟨rfl, rfl, rfl, by decide +kernel, rfl, by decide +kernel, by decide +kernel⟩
theorem kl_L_told_0 {X : Cx} (h : X.env.scope = defScope s_L_told) : X.env.scope.names.lookup ("_law_rail" : Str) = some .local := by rw [h]; decide +kernel
theorem lc_L_told_0 {X : Cx} (h : X.env.scope = defScope s_L_told) : Loc X.env.scope "_law_rail" := .inl (kl_L_told_0 h)
theorem nv_L_told_0 {X : Cx} {pos : Pos} (hN : X.N = N_L_told) (h : X.env.scope = defScope s_L_told) : PE X (.Name "_law_rail" pos) (tVar 0) := pe_var (by rw [hN]; rfl) (.inl (kl_L_told_0 h))
theorem kl_L_told_1 {X : Cx} (h : X.env.scope = defScope s_L_told) : X.env.scope.names.lookup ("_law_spin" : Str) = some .local := by rw [h]; decide +kernel
theorem lc_L_told_1 {X : Cx} (h : X.env.scope = defScope s_L_told) : Loc X.env.scope "_law_spin" := .inl (kl_L_told_1 h)
theorem nv_L_told_1 {X : Cx} {pos : Pos} (hN : X.N = N_L_told) (h : X.env.scope = defScope s_L_told) : PE X (.Name "_law_spin" pos) (tVar 1) := pe_var (by rw [hN]; rfl) (.inl (kl_L_told_1 h))
theorem kl_L_told_2 {X : Cx} (h : X.env.scope = defScope s_L_told) : X.env.scope.names.lookup ("_law_due" : Str) = some .local := by rw [h]; decide +kernel
theorem lc_L_told_2 {X : Cx} (h : X.env.scope = defScope s_L_told) : Loc X.env.scope "_law_due" := .inl (kl_L_told_2 h)
theorem nv_L_told_2 {X : Cx} {pos : Pos} (hN : X.N = N_L_told) (h : X.env.scope = defScope s_L_told) : PE X (.Name "_law_due" pos) (tVar 2) := pe_var (by rw [hN]; rfl) (.inl (kl_L_told_2 h))
theorem kl_L_told_3 {X : Cx} (h : X.env.scope = defScope s_L_told) : X.env.scope.names.lookup ("_law_found" : Str) = some .local := by rw [h]; decide +kernel
theorem lc_L_told_3 {X : Cx} (h : X.env.scope = defScope s_L_told) : Loc X.env.scope "_law_found" := .inl (kl_L_told_3 h)
theorem nv_L_told_3 {X : Cx} {pos : Pos} (hN : X.N = N_L_told) (h : X.env.scope = defScope s_L_told) : PE X (.Name "_law_found" pos) (tVar 3) := pe_var (by rw [hN]; rfl) (.inl (kl_L_told_3 h))
theorem gl_L_told_isinstance {X : Cx} (h : X.env.scope = defScope s_L_told) : Gl X "isinstance" := by unfold Gl PySem.Env.kindOf; rw [h]; decide +kernel
theorem gl_L_told_repr {X : Cx} (h : X.env.scope = defScope s_L_told) : Gl X "repr" := by unfold Gl PySem.Env.kindOf; rw [h]; decide +kernel
theorem gl_L_told_told_at {X : Cx} (h : X.env.scope = defScope s_L_told) : Gl X "told_at" := by unfold Gl PySem.Env.kindOf; rw [h]; decide +kernel
theorem gl_L_told_tuple {X : Cx} (h : X.env.scope = defScope s_L_told) : Gl X "tuple" := by unfold Gl PySem.Env.kindOf; rw [h]; decide +kernel
theorem gl_L_told_turn_of {X : Cx} (h : X.env.scope = defScope s_L_told) : Gl X "turn_of" := by unfold Gl PySem.Env.kindOf; rw [h]; decide +kernel
theorem der_L_told {P : Program} {w : World} {K : PySem.W.Frag} {mg : Str → Option Value} {base : Heap} {cc : Cl} (bn : Bn mg) (cn : Cn mg) (ce : Ce K mg cc) {fa_told_at : Addr} {fd_told_at : FuncData} (I_told_at : FnI P w K mg base "told_at" 2 ["line", "turn"] (spP (GG K cc) XR0 2 P_told_at) fa_told_at fd_told_at) {fa_turn_of : Addr} {fd_turn_of : FuncData} (I_turn_of : FnI P w K mg base "turn_of" 1 ["line", "ticket"] (spP (GG K cc) XR0 2 P_turn_of) fa_turn_of fd_turn_of) (kb_told_at_0 : KwB K fd_told_at ["line", "turn"] ["turn", "line"] 0 2 [1, 0] []) (kb_turn_of_1 : KwB K fd_turn_of ["line", "ticket"] ["ticket", "line"] 0 2 [1, 0] []) {f : Addr} (cdv : Value) (A : Around) (outer : List PySem.Env) (s : Shared) (H : Hp) (E : XK) (hr : Room 2 (A.deeper (envOfC "_law_told" (defScope s_L_told) s.heap.objs.size f cdv))) (hg : A.guards = some []) :
    PSs (cxOf (L2.CX P w) P w K mg base N_L_told "_law_told" (defScope s_L_told) f cdv A outer s H E) (defBody s_L_told) (tEx (GG K cc) XR0 (fun c d _ H => E c d H) [] g_L_told) := by
  have B : Bx (GG K cc) (fun c d _ H => E c d H) 2 (cxOf (L2.CX P w) P w K mg base N_L_told "_law_told" (defScope s_L_told) f cdv A outer s H E) := Bx.of rfl sc_L_told.nd hr hg
  unfold g_L_told
  exact (es_cons (es_set (i := 2) B.nd rfl (lc_L_told_2 rfl) (ev_tup (ea_cons (ev_ix ix_seq o_ix (ev_name (nv_L_told_0 rfl rfl)) ev_int (fun _ _ => rfl)) (ea_cons (ev_op op_addAll o_add (ev_ix ix_seq o_ix (ev_name (nv_L_told_0 rfl rfl)) ev_int (fun _ _ => rfl)) (ev_op op_mulW o_mul (ev_name (nv_L_told_1 rfl rfl)) (ev_ix ix_seq o_ix (ev_name (nv_L_told_0 rfl rfl)) ev_int (fun _ _ => rfl)))) ea_nil)))) (es_cons (es_set (i := 3) B.nd rfl (lc_L_told_3 rfl) (ev_call I_told_at.fn (B.room.mono (by decide)) B.gu B.tk (gl_L_told_told_at rfl) I_told_at.mg I_told_at.kp I_told_at.bd (ea_cons (ev_name (nv_L_told_0 rfl rfl)) (ea_cons (ev_name (nv_L_told_1 rfl rfl)) ea_nil)))) (es_cons (es_if (PW.pt (ew_or (et_not (et_val (ev_isi (k := 0) B.kk (gl_L_told_isinstance rfl) bn.b_isinstance (by decide +kernel) (gl_L_told_tuple rfl) bn.b_tuple (by decide +kernel) (ev_name (nv_L_told_3 rfl rfl))))) (ew_or (et_cmp (op_neT B.un64) o_ne (ev_callB1 (call_repr B.gu B.un) o_repr (gl_L_told_repr rfl) bn.b_repr (by decide +kernel) (ev_name (nv_L_told_3 rfl rfl))) (ev_callB1 (call_repr B.gu B.un) o_repr (gl_L_told_repr rfl) bn.b_repr (by decide +kernel) (ev_name (nv_L_told_2 rfl rfl))) (nomark _)) (ew_or1 (et_cmp (op_neT B.un64) o_ne (ev_callB1 (call_repr B.gu B.un) o_repr (gl_L_told_repr rfl) bn.b_repr (by decide +kernel) (ev_callW0 I_told_at.fn (B.room.mono (by decide)) B.gu B.tk (gl_L_told_told_at rfl) I_told_at.mg I_told_at.kp kb_told_at_0 .nil (fun _ _ => .nil) (ek_cons (ev_name (nv_L_told_1 rfl rfl)) (ek_cons (ev_name (nv_L_told_0 rfl rfl)) ek_nil)))) (ev_callB1 (call_repr B.gu B.un) o_repr (gl_L_told_repr rfl) bn.b_repr (by decide +kernel) (ev_name (nv_L_told_2 rfl rfl))) (nomark _)))))) (es_one (es_ret ev_bl)) es_nil) (es_one (es_ret (ev_and (ev_cmp (op_eqT B.un64) o_eq (ev_callB1 (call_repr B.gu B.un) o_repr (gl_L_told_repr rfl) bn.b_repr (by decide +kernel) (ev_call I_turn_of.fn (B.room.mono (by decide)) B.gu B.tk (gl_L_told_turn_of rfl) I_turn_of.mg I_turn_of.kp I_turn_of.bd (ea_cons (ev_name (nv_L_told_0 rfl rfl)) (ea_cons (ev_name (nv_L_told_3 rfl rfl)) ea_nil)))) (ev_callB1 (call_repr B.gu B.un) o_repr (gl_L_told_repr rfl) bn.b_repr (by decide +kernel) (ev_name (nv_L_told_1 rfl rfl))) (nomark _)) (ev_one (ev_cmp (op_eqT B.un64) o_eq (ev_callB1 (call_repr B.gu B.un) o_repr (gl_L_told_repr rfl) bn.b_repr (by decide +kernel) (ev_callW0 I_turn_of.fn (B.room.mono (by decide)) B.gu B.tk (gl_L_told_turn_of rfl) I_turn_of.mg I_turn_of.kp kb_turn_of_1 .nil (fun _ _ => .nil) (ek_cons (ev_name (nv_L_told_3 rfl rfl)) (ek_cons (ev_name (nv_L_told_0 rfl rfl)) ek_nil)))) (ev_callB1 (call_repr B.gu B.un) o_repr (gl_L_told_repr rfl) bn.b_repr (by decide +kernel) (ev_name (nv_L_told_1 rfl rfl))) (nomark _)))))))))
abbrev s_L_back : Stmt := topS 23
abbrev N_L_back : List Str := ["_law_rail", "_law_card", "_law_due"]
theorem sc_L_back : FnScope N_L_back ["_law_rail", "_law_card"] (defScope s_L_back) := ⟨rfl, rfl, rfl, by decide +kernel, rfl, by decide +kernel, by decide +kernel⟩
theorem kl_L_back_0 {X : Cx} (h : X.env.scope = defScope s_L_back) : X.env.scope.names.lookup ("_law_rail" : Str) = some .local := by rw [h]; decide +kernel
theorem lc_L_back_0 {X : Cx} (h : X.env.scope = defScope s_L_back) : Loc X.env.scope "_law_rail" := .inl (kl_L_back_0 h)
theorem nv_L_back_0 {X : Cx} {pos : Pos} (hN : X.N = N_L_back) (h : X.env.scope = defScope s_L_back) : PE X (.Name "_law_rail" pos) (tVar 0) := pe_var (by rw [hN]; rfl) (.inl (kl_L_back_0 h))
theorem kl_L_back_1 {X : Cx} (h : X.env.scope = defScope s_L_back) : X.env.scope.names.lookup ("_law_card" : Str) = some .local := by rw [h]; decide +kernel
theorem lc_L_back_1 {X : Cx} (h : X.env.scope = defScope s_L_back) : Loc X.env.scope "_law_card" := .inl (kl_L_back_1 h)
theorem nv_L_back_1 {X : Cx} {pos : Pos} (hN : X.N = N_L_back) (h : X.env.scope = defScope s_L_back) : PE X (.Name "_law_card" pos) (tVar 1) := pe_var (by rw [hN]; rfl) (.inl (kl_L_back_1 h))
theorem kl_L_back_2 {X : Cx} (h : X.env.scope = defScope s_L_back) : X.env.scope.names.lookup ("_law_due" : Str) = some .local := by rw [h]; decide +kernel
theorem lc_L_back_2 {X : Cx} (h : X.env.scope = defScope s_L_back) : Loc X.env.scope "_law_due" := .inl (kl_L_back_2 h)
theorem nv_L_back_2 {X : Cx} {pos : Pos} (hN : X.N = N_L_back) (h : X.env.scope = defScope s_L_back) : PE X (.Name "_law_due" pos) (tVar 2) := pe_var (by rw [hN]; rfl) (.inl (kl_L_back_2 h))
theorem gl_L_back_repr {X : Cx} (h : X.env.scope = defScope s_L_back) : Gl X "repr" := by unfold Gl PySem.Env.kindOf; rw [h]; decide +kernel
theorem gl_L_back_turn_of {X : Cx} (h : X.env.scope = defScope s_L_back) : Gl X "turn_of" := by unfold Gl PySem.Env.kindOf; rw [h]; decide +kernel
theorem der_L_back {P : Program} {w : World} {K : PySem.W.Frag} {mg : Str → Option Value} {base : Heap} {cc : Cl} (bn : Bn mg) (cn : Cn mg) (ce : Ce K mg cc) {fa_turn_of : Addr} {fd_turn_of : FuncData} (I_turn_of : FnI P w K mg base "turn_of" 1 ["line", "ticket"] (spP (GG K cc) XR0 2 P_turn_of) fa_turn_of fd_turn_of) {f : Addr} (cdv : Value) (A : Around) (outer : List PySem.Env) (s : Shared) (H : Hp) (E : XK) (hr : Room 1 (A.deeper (envOfC "_law_back" (defScope s_L_back) s.heap.objs.size f cdv))) (hg : A.guards = some []) :
    PSs (cxOf (L2.CX P w) P w K mg base N_L_back "_law_back" (defScope s_L_back) f cdv A outer s H E) (defBody s_L_back) (tEx (GG K cc) XR0 (fun c d _ H => E c d H) [] g_L_back) := by
  have B : Bx (GG K cc) (fun c d _ H => E c d H) 1 (cxOf (L2.CX P w) P w K mg base N_L_back "_law_back" (defScope s_L_back) f cdv A outer s H E) := Bx.of rfl sc_L_back.nd hr hg
  unfold g_L_back
  exact (es_cons (es_set (i := 2) B.nd rfl (lc_L_back_2 rfl) ev_non) (es_cons (es_if (PW.pt (ew_and (et_cmp (op_eqT B.un64) o_eq (ev_ix ix_seq o_ix (ev_name (nv_L_back_1 rfl rfl)) ev_int (fun _ _ => rfl)) (ev_ix ix_seq o_ix (ev_name (nv_L_back_0 rfl rfl)) ev_int (fun _ _ => rfl)) (nomark _)) (ew_and (et_cmp op_ge o_ge (ev_ix ix_seq o_ix (ev_name (nv_L_back_1 rfl rfl)) ev_int (fun _ _ => rfl)) (ev_ix ix_seq o_ix (ev_name (nv_L_back_0 rfl rfl)) ev_int (fun _ _ => rfl)) (nomark _)) (ew_and1 (et_cmp (op_eqT B.un64) o_eq (ev_op op_mod o_mod (ev_op op_sub o_sub (ev_ix ix_seq o_ix (ev_name (nv_L_back_1 rfl rfl)) ev_int (fun _ _ => rfl)) (ev_ix ix_seq o_ix (ev_name (nv_L_back_0 rfl rfl)) ev_int (fun _ _ => rfl))) (ev_ix ix_seq o_ix (ev_name (nv_L_back_0 rfl rfl)) ev_int (fun _ _ => rfl))) ev_int (nomark _)))))) (es_one (es_set (i := 2) B.nd rfl (lc_L_back_2 rfl) (ev_op op_fdivW o_div (ev_op op_sub o_sub (ev_ix ix_seq o_ix (ev_name (nv_L_back_1 rfl rfl)) ev_int (fun _ _ => rfl)) (ev_ix ix_seq o_ix (ev_name (nv_L_back_0 rfl rfl)) ev_int (fun _ _ => rfl))) (ev_ix ix_seq o_ix (ev_name (nv_L_back_0 rfl rfl)) ev_int (fun _ _ => rfl))))) es_nil) (es_one (es_ret (ev_cmp (op_eqT B.un64) o_eq (ev_callB1 (call_repr B.gu B.un) o_repr (gl_L_back_repr rfl) bn.b_repr (by decide +kernel) (ev_call I_turn_of.fn (B.room.mono (by decide)) B.gu B.tk (gl_L_back_turn_of rfl) I_turn_of.mg I_turn_of.kp I_turn_of.bd (ea_cons (ev_name (nv_L_back_0 rfl rfl)) (ea_cons (ev_name (nv_L_back_1 rfl rfl)) ea_nil)))) (ev_callB1 (call_repr B.gu B.un) o_repr (gl_L_back_repr rfl) bn.b_repr (by decide +kernel) (ev_name (nv_L_back_2 rfl rfl))) (nomark _))))))
abbrev s_L_refused : Stmt := topS 24
abbrev N_L_refused : List Str := ["_law_rail", "_law_spin", "_law_found", "e"]
theorem sc_L_refused : FnScope N_L_refused ["_law_rail", "_law_spin"] (defScope s_L_refused) := ⟨rfl, rfl, rfl, by decide +kernel, rfl, by decide +kernel, by decide +kernel⟩
theorem kl_L_refused_0 {X : Cx} (h : X.env.scope = defScope s_L_refused) : X.env.scope.names.lookup ("_law_rail" : Str) = some .local := by rw [h]; decide +kernel
theorem lc_L_refused_0 {X : Cx} (h : X.env.scope = defScope s_L_refused) : Loc X.env.scope "_law_rail" := .inl (kl_L_refused_0 h)
theorem nv_L_refused_0 {X : Cx} {pos : Pos} (hN : X.N = N_L_refused) (h : X.env.scope = defScope s_L_refused) : PE X (.Name "_law_rail" pos) (tVar 0) := pe_var (by rw [hN]; rfl) (.inl (kl_L_refused_0 h))
theorem kl_L_refused_1 {X : Cx} (h : X.env.scope = defScope s_L_refused) : X.env.scope.names.lookup ("_law_spin" : Str) = some .local := by rw [h]; decide +kernel
theorem lc_L_refused_1 {X : Cx} (h : X.env.scope = defScope s_L_refused) : Loc X.env.scope "_law_spin" := .inl (kl_L_refused_1 h)
theorem nv_L_refused_1 {X : Cx} {pos : Pos} (hN : X.N = N_L_refused) (h : X.env.scope = defScope s_L_refused) : PE X (.Name "_law_spin" pos) (tVar 1) := pe_var (by rw [hN]; rfl) (.inl (kl_L_refused_1 h))
theorem kl_L_refused_2 {X : Cx} (h : X.env.scope = defScope s_L_refused) : X.env.scope.names.lookup ("_law_found" : Str) = some .local := by rw [h]; decide +kernel
theorem lc_L_refused_2 {X : Cx} (h : X.env.scope = defScope s_L_refused) : Loc X.env.scope "_law_found" := .inl (kl_L_refused_2 h)
theorem nv_L_refused_2 {X : Cx} {pos : Pos} (hN : X.N = N_L_refused) (h : X.env.scope = defScope s_L_refused) : PE X (.Name "_law_found" pos) (tVar 2) := pe_var (by rw [hN]; rfl) (.inl (kl_L_refused_2 h))
theorem kl_L_refused_3 {X : Cx} (h : X.env.scope = defScope s_L_refused) : X.env.scope.names.lookup ("e" : Str) = some .local := by rw [h]; decide +kernel
theorem lc_L_refused_3 {X : Cx} (h : X.env.scope = defScope s_L_refused) : Loc X.env.scope "e" := .inl (kl_L_refused_3 h)
theorem nv_L_refused_3 {X : Cx} {pos : Pos} (hN : X.N = N_L_refused) (h : X.env.scope = defScope s_L_refused) : PE X (.Name "e" pos) (tVar 3) := pe_var (by rw [hN]; rfl) (.inl (kl_L_refused_3 h))
theorem kd_L_refused_3 {X : Cx} (h : X.env.scope = defScope s_L_refused) : X.env.kindOf ("e" : Str) = some .local := by unfold PySem.Env.kindOf; rw [h]; decide +kernel
theorem gl_L_refused_Absent {X : Cx} (h : X.env.scope = defScope s_L_refused) : Gl X "Absent" := by unfold Gl PySem.Env.kindOf; rw [h]; decide +kernel
theorem gl_L_refused_Barred {X : Cx} (h : X.env.scope = defScope s_L_refused) : Gl X "Barred" := by unfold Gl PySem.Env.kindOf; rw [h]; decide +kernel
theorem gl_L_refused_NoForm {X : Cx} (h : X.env.scope = defScope s_L_refused) : Gl X "NoForm" := by unfold Gl PySem.Env.kindOf; rw [h]; decide +kernel
theorem gl_L_refused_NoLetter {X : Cx} (h : X.env.scope = defScope s_L_refused) : Gl X "NoLetter" := by unfold Gl PySem.Env.kindOf; rw [h]; decide +kernel
theorem gl_L_refused_NoNumber {X : Cx} (h : X.env.scope = defScope s_L_refused) : Gl X "NoNumber" := by unfold Gl PySem.Env.kindOf; rw [h]; decide +kernel
theorem gl_L_refused_NoPlace {X : Cx} (h : X.env.scope = defScope s_L_refused) : Gl X "NoPlace" := by unfold Gl PySem.Env.kindOf; rw [h]; decide +kernel
theorem gl_L_refused_NoSize {X : Cx} (h : X.env.scope = defScope s_L_refused) : Gl X "NoSize" := by unfold Gl PySem.Env.kindOf; rw [h]; decide +kernel
theorem gl_L_refused_NoTicket {X : Cx} (h : X.env.scope = defScope s_L_refused) : Gl X "NoTicket" := by unfold Gl PySem.Env.kindOf; rw [h]; decide +kernel
theorem gl_L_refused_RowsError {X : Cx} (h : X.env.scope = defScope s_L_refused) : Gl X "RowsError" := by unfold Gl PySem.Env.kindOf; rw [h]; decide +kernel
theorem gl_L_refused_TooMany {X : Cx} (h : X.env.scope = defScope s_L_refused) : Gl X "TooMany" := by unfold Gl PySem.Env.kindOf; rw [h]; decide +kernel
theorem gl_L_refused_ValueError {X : Cx} (h : X.env.scope = defScope s_L_refused) : Gl X "ValueError" := by unfold Gl PySem.Env.kindOf; rw [h]; decide +kernel
theorem gl_L_refused_isinstance {X : Cx} (h : X.env.scope = defScope s_L_refused) : Gl X "isinstance" := by unfold Gl PySem.Env.kindOf; rw [h]; decide +kernel
theorem gl_L_refused_told_at {X : Cx} (h : X.env.scope = defScope s_L_refused) : Gl X "told_at" := by unfold Gl PySem.Env.kindOf; rw [h]; decide +kernel
theorem der_L_refused {P : Program} {w : World} {K : PySem.W.Frag} {mg : Str → Option Value} {base : Heap} {cc : Cl} (bn : Bn mg) (cn : Cn mg) (ce : Ce K mg cc) {fa_told_at : Addr} {fd_told_at : FuncData} (I_told_at : FnI P w K mg base "told_at" 2 ["line", "turn"] (spP (GG K cc) XR0 2 P_told_at) fa_told_at fd_told_at) {f : Addr} (cdv : Value) (A : Around) (outer : List PySem.Env) (s : Shared) (H : Hp) (E : XK) (hr : Room 2 (A.deeper (envOfC "_law_refused" (defScope s_L_refused) s.heap.objs.size f cdv))) (hg : A.guards = some []) :
    PSs (cxOf (L2.CX P w) P w K mg base N_L_refused "_law_refused" (defScope s_L_refused) f cdv A outer s H E) (defBody s_L_refused) (tEx (GG K cc) XR0 (fun c d _ H => E c d H) [] g_L_refused) := by
  have B : Bx (GG K cc) (fun c d _ H => E c d H) 2 (cxOf (L2.CX P w) P w K mg base N_L_refused "_law_refused" (defScope s_L_refused) f cdv A outer s H E) := Bx.of rfl sc_L_refused.nd hr hg
  unfold g_L_refused ts_L_refused_1 tb_L_refused_1
  exact (es_cons (es_set (i := 2) B.nd rfl (lc_L_refused_2 rfl) ev_non) (es_cons (es_tryAs (i := 3) B rfl rfl rfl (kd_L_refused_3 rfl) ⟨(gl_L_refused_RowsError rfl), by decide, .inl ce.g_RowsError⟩ (by decide) (xm_RowsError ce) (fun W1 pn1 xe1 tk1 po1 => (es_one (es_expr (ev_call I_told_at.fn ((B.tr tk1 po1).room.mono (by decide)) (B.tr tk1 po1).gu (B.tr tk1 po1).tk (gl_L_refused_told_at rfl) I_told_at.mg I_told_at.kp I_told_at.bd (ea_cons (ev_name (nv_L_refused_0 rfl rfl)) (ea_cons (ev_name (nv_L_refused_1 rfl rfl)) ea_nil)))))) (fun a1 oe1 c1 d1 pn1 hz hf => (es_cons (es_set (i := 2) (B.suite a1 ((a1, oe1) :: pn1) (some (a1, c1, d1))).nd rfl (lc_L_refused_2 rfl) (ev_lst (ea_cons (ev_isE (i := 3) (cu := .ref cc.NoNumber) B.kk hz hf (xc_all ce) (gl_L_refused_isinstance rfl) bn.b_isinstance (by decide +kernel) (nv_L_refused_3 rfl rfl) (pe_glob (v := .ref cc.NoNumber) (gl_L_refused_NoNumber rfl) ce.g_NoNumber rfl) (fun _ h => h) (ki_NoNumber ce)) (ea_cons (ev_isE (i := 3) (cu := .type "ValueError") B.kk hz hf (xc_all ce) (gl_L_refused_isinstance rfl) bn.b_isinstance (by decide +kernel) (nv_L_refused_3 rfl rfl) (pe_bltn (v := .ty "ValueError") (gl_L_refused_ValueError rfl) bn.b_ValueError (by decide +kernel) rfl) (fun _ h => h) (ki_ValueError ce)) (ea_cons (ev_isEt (i := 3) (cvs := [.ref cc.Absent, .ref cc.Barred, .ref cc.TooMany]) (cus := [.ref cc.Absent, .ref cc.Barred, .ref cc.TooMany]) B.kk hz hf (xc_all ce) (gl_L_refused_isinstance rfl) bn.b_isinstance (by decide +kernel) (nv_L_refused_3 rfl rfl) (by exact (pa_cons (pe_glob (v := .ref cc.Absent) (gl_L_refused_Absent rfl) ce.g_Absent rfl) (pa_cons (pe_glob (v := .ref cc.Barred) (gl_L_refused_Barred rfl) ce.g_Barred rfl) (pa_cons (pe_glob (v := .ref cc.TooMany) (gl_L_refused_TooMany rfl) ce.g_TooMany rfl) pa_nil (by rfl)) (by rfl)) (by rfl))) (Nat.le_of_ble_eq_true rfl) (fun _ h => vals_cls [cc.Absent, cc.Barred, cc.TooMany] h) (ki_Absent_Barred_TooMany ce)) ea_nil))))) (es_one (es_expr (ev_meth PySem.F.slot_list_append PySem.F.type_list_append mt_append mo_append (B.suite a1 ((a1, oe1) :: pn1) (some (a1, c1, d1))).kk (nv_L_refused_2 rfl rfl) (ea_cons (ev_isEt (i := 3) (cvs := [.ref cc.NoForm, .ref cc.NoLetter, .ref cc.NoPlace, .ref cc.NoSize, .ref cc.NoTicket]) (cus := [.ref cc.NoForm, .ref cc.NoLetter, .ref cc.NoPlace, .ref cc.NoSize, .ref cc.NoTicket]) B.kk hz hf (xc_all ce) (gl_L_refused_isinstance rfl) bn.b_isinstance (by decide +kernel) (nv_L_refused_3 rfl rfl) (by exact (pa_cons (pe_glob (v := .ref cc.NoForm) (gl_L_refused_NoForm rfl) ce.g_NoForm rfl) (pa_cons (pe_glob (v := .ref cc.NoLetter) (gl_L_refused_NoLetter rfl) ce.g_NoLetter rfl) (pa_cons (pe_glob (v := .ref cc.NoPlace) (gl_L_refused_NoPlace rfl) ce.g_NoPlace rfl) (pa_cons (pe_glob (v := .ref cc.NoSize) (gl_L_refused_NoSize rfl) ce.g_NoSize rfl) (pa_cons (pe_glob (v := .ref cc.NoTicket) (gl_L_refused_NoTicket rfl) ce.g_NoTicket rfl) pa_nil (by rfl)) (by rfl)) (by rfl)) (by rfl)) (by rfl))) (Nat.le_of_ble_eq_true rfl) (fun _ h => vals_cls [cc.NoForm, cc.NoLetter, cc.NoPlace, cc.NoSize, cc.NoTicket] h) (ki_NoForm_NoLetter_NoPlace_NoSize_NoTicket ce)) ea_nil))))))) (es_one (es_ret (ev_cmp (op_eqT B.un64) o_eq (ev_name (nv_L_refused_2 rfl rfl)) (ev_lst (ea_cons ev_bl (ea_cons ev_bl (ea_cons ev_bl (ea_cons ev_bl ea_nil))))) (nomark _))))))
abbrev s_law : Stmt := topS 26
abbrev N_law : List Str := ["_law_script", "_law_k", "_law_pot_here", "_law_rail", "_law_other", "_law_spin", "_law_card", "_law_odd"]
theorem sc_law : FnScope N_law ["_law_script"] (defScope s_law) := ⟨rfl, rfl, rfl, by decide +kernel, rfl, by decide +kernel, by decide +kernel⟩
theorem kl_law_0 {X : Cx} (h : X.env.scope = defScope s_law) : X.env.scope.names.lookup ("_law_script" : Str) = some .local := by rw [h]; decide +kernel
theorem lc_law_0 {X : Cx} (h : X.env.scope = defScope s_law) : Loc X.env.scope "_law_script" := .inl (kl_law_0 h)
theorem nv_law_0 {X : Cx} {pos : Pos} (hN : X.N = N_law) (h : X.env.scope = defScope s_law) : PE X (.Name "_law_script" pos) (tVar 0) := pe_var (by rw [hN]; rfl) (.inl (kl_law_0 h))
theorem kl_law_1 {X : Cx} (h : X.env.scope = defScope s_law) : X.env.scope.names.lookup ("_law_k" : Str) = some .local := by rw [h]; decide +kernel
theorem lc_law_1 {X : Cx} (h : X.env.scope = defScope s_law) : Loc X.env.scope "_law_k" := .inl (kl_law_1 h)
theorem nv_law_1 {X : Cx} {pos : Pos} (hN : X.N = N_law) (h : X.env.scope = defScope s_law) : PE X (.Name "_law_k" pos) (tVar 1) := pe_var (by rw [hN]; rfl) (.inl (kl_law_1 h))
theorem kl_law_2 {X : Cx} (h : X.env.scope = defScope s_law) : X.env.scope.names.lookup ("_law_pot_here" : Str) = some .local := by rw [h]; decide +kernel
theorem lc_law_2 {X : Cx} (h : X.env.scope = defScope s_law) : Loc X.env.scope "_law_pot_here" := .inl (kl_law_2 h)
theorem nv_law_2 {X : Cx} {pos : Pos} (hN : X.N = N_law) (h : X.env.scope = defScope s_law) : PE X (.Name "_law_pot_here" pos) (tVar 2) := pe_var (by rw [hN]; rfl) (.inl (kl_law_2 h))
theorem kl_law_3 {X : Cx} (h : X.env.scope = defScope s_law) : X.env.scope.names.lookup ("_law_rail" : Str) = some .cell := by rw [h]; decide +kernel
theorem lc_law_3 {X : Cx} (h : X.env.scope = defScope s_law) : Loc X.env.scope "_law_rail" := .inr (kl_law_3 h)
theorem nv_law_3 {X : Cx} {pos : Pos} (hN : X.N = N_law) (h : X.env.scope = defScope s_law) : PE X (.Name "_law_rail" pos) (tVar 3) := pe_var (by rw [hN]; rfl) (.inr (.inl (kl_law_3 h)))
theorem kl_law_4 {X : Cx} (h : X.env.scope = defScope s_law) : X.env.scope.names.lookup ("_law_other" : Str) = some .local := by rw [h]; decide +kernel
theorem lc_law_4 {X : Cx} (h : X.env.scope = defScope s_law) : Loc X.env.scope "_law_other" := .inl (kl_law_4 h)
theorem nv_law_4 {X : Cx} {pos : Pos} (hN : X.N = N_law) (h : X.env.scope = defScope s_law) : PE X (.Name "_law_other" pos) (tVar 4) := pe_var (by rw [hN]; rfl) (.inl (kl_law_4 h))
theorem kl_law_5 {X : Cx} (h : X.env.scope = defScope s_law) : X.env.scope.names.lookup ("_law_spin" : Str) = some .local := by rw [h]; decide +kernel
theorem lc_law_5 {X : Cx} (h : X.env.scope = defScope s_law) : Loc X.env.scope "_law_spin" := .inl (kl_law_5 h)
theorem nv_law_5 {X : Cx} {pos : Pos} (hN : X.N = N_law) (h : X.env.scope = defScope s_law) : PE X (.Name "_law_spin" pos) (tVar 5) := pe_var (by rw [hN]; rfl) (.inl (kl_law_5 h))
theorem kl_law_6 {X : Cx} (h : X.env.scope = defScope s_law) : X.env.scope.names.lookup ("_law_card" : Str) = some .local := by rw [h]; decide +kernel
theorem lc_law_6 {X : Cx} (h : X.env.scope = defScope s_law) : Loc X.env.scope "_law_card" := .inl (kl_law_6 h)
theorem nv_law_6 {X : Cx} {pos : Pos} (hN : X.N = N_law) (h : X.env.scope = defScope s_law) : PE X (.Name "_law_card" pos) (tVar 6) := pe_var (by rw [hN]; rfl) (.inl (kl_law_6 h))
theorem kl_law_7 {X : Cx} (h : X.env.scope = defScope s_law) : X.env.scope.names.lookup ("_law_odd" : Str) = some .local := by rw [h]; decide +kernel
theorem lc_law_7 {X : Cx} (h : X.env.scope = defScope s_law) : Loc X.env.scope "_law_odd" := .inl (kl_law_7 h)
theorem nv_law_7 {X : Cx} {pos : Pos} (hN : X.N = N_law) (h : X.env.scope = defScope s_law) : PE X (.Name "_law_odd" pos) (tVar 7) := pe_var (by rw [hN]; rfl) (.inl (kl_law_7 h))
theorem gl_law_L_back {X : Cx} (h : X.env.scope = defScope s_law) : Gl X "_law_back" := by unfold Gl PySem.Env.kindOf; rw [h]; decide +kernel
theorem gl_law_L_digit {X : Cx} (h : X.env.scope = defScope s_law) : Gl X "_law_digit" := by unfold Gl PySem.Env.kindOf; rw [h]; decide +kernel
theorem gl_law_L_far {X : Cx} (h : X.env.scope = defScope s_law) : Gl X "_law_far" := by unfold Gl PySem.Env.kindOf; rw [h]; decide +kernel
theorem gl_law_L_line {X : Cx} (h : X.env.scope = defScope s_law) : Gl X "_law_line" := by unfold Gl PySem.Env.kindOf; rw [h]; decide +kernel
theorem gl_law_L_number {X : Cx} (h : X.env.scope = defScope s_law) : Gl X "_law_number" := by unfold Gl PySem.Env.kindOf; rw [h]; decide +kernel
theorem gl_law_L_pot {X : Cx} (h : X.env.scope = defScope s_law) : Gl X "_law_pot" := by unfold Gl PySem.Env.kindOf; rw [h]; decide +kernel
theorem gl_law_L_tickets {X : Cx} (h : X.env.scope = defScope s_law) : Gl X "_law_tickets" := by unfold Gl PySem.Env.kindOf; rw [h]; decide +kernel
theorem gl_law_L_told {X : Cx} (h : X.env.scope = defScope s_law) : Gl X "_law_told" := by unfold Gl PySem.Env.kindOf; rw [h]; decide +kernel
theorem gl_law_all {X : Cx} (h : X.env.scope = defScope s_law) : Gl X "all" := by unfold Gl PySem.Env.kindOf; rw [h]; decide +kernel
theorem gl_law_len {X : Cx} (h : X.env.scope = defScope s_law) : Gl X "len" := by unfold Gl PySem.Env.kindOf; rw [h]; decide +kernel
theorem gl_law_max {X : Cx} (h : X.env.scope = defScope s_law) : Gl X "max" := by unfold Gl PySem.Env.kindOf; rw [h]; decide +kernel
theorem gl_law_min {X : Cx} (h : X.env.scope = defScope s_law) : Gl X "min" := by unfold Gl PySem.Env.kindOf; rw [h]; decide +kernel
theorem gl_law_range {X : Cx} (h : X.env.scope = defScope s_law) : Gl X "range" := by unfold Gl PySem.Env.kindOf; rw [h]; decide +kernel
theorem der_law {P : Program} {w : World} {K : PySem.W.Frag} {mg : Str → Option Value} {base : Heap} {cc : Cl} (bn : Bn mg) (cn : Cn mg) (ce : Ce K mg cc) {fa_L_pot : Addr} {fd_L_pot : FuncData} (I_L_pot : FnI P w K mg base "_law_pot" 1 ["_law_script", "_law_k"] (spP (GG K cc) XR0 2 P_L_pot) fa_L_pot fd_L_pot) {fa_L_line : Addr} {fd_L_line : FuncData} (I_L_line : FnI P w K mg base "_law_line" 4 ["_law_pot_here"] (spM (GG K cc) XR0 1 P_L_line) fa_L_line fd_L_line) {fa_L_digit : Addr} {fd_L_digit : FuncData} (I_L_digit : FnI P w K mg base "_law_digit" 1 ["_law_pot_here", "_law_many"] (spM (GG K cc) XR0 2 P_L_digit) fa_L_digit fd_L_digit) {fa_L_number : Addr} {fd_L_number : FuncData} (I_L_number : FnI P w K mg base "_law_number" 3 ["_law_pot_here"] (spM (GG K cc) XR0 1 P_L_number) fa_L_number fd_L_number) {fa_L_far : Addr} {fd_L_far : FuncData} (I_L_far : FnI P w K mg base "_law_far" 2 ["_law_pot_here"] (spM (GG K cc) XR0 1 P_L_far) fa_L_far fd_L_far) {fa_L_tickets : Addr} {fd_L_tickets : FuncData} (I_L_tickets : FnI P w K mg base "_law_tickets" 4 ["_law_pot_here", "_law_rail", "_law_other", "_law_spin"] (spM (GG K cc) XR0 4 P_L_tickets) fa_L_tickets fd_L_tickets) {fa_L_told : Addr} {fd_L_told : FuncData} (I_L_told : FnI P w K mg base "_law_told" 3 ["_law_rail", "_law_spin"] (spP (GG K cc) XR0 2 P_L_told) fa_L_told fd_L_told) {fa_L_back : Addr} {fd_L_back : FuncData} (I_L_back : FnI P w K mg base "_law_back" 2 ["_law_rail", "_law_card"] (spP (GG K cc) XR0 2 P_L_back) fa_L_back fd_L_back) {fa_L_refused : Addr} {fd_L_refused : FuncData} (I_L_refused : FnI P w K mg base "_law_refused" 3 ["_law_rail", "_law_spin"] (spP (GG K cc) XR0 2 P_L_refused) fa_L_refused fd_L_refused) {f : Addr} (cdv : Value) (A : Around) (outer : List PySem.Env) (s : Shared) (H : Hp) (E : XK) (hr : Room 4 (A.deeper (envOfC "law" (defScope s_law) s.heap.objs.size f cdv))) (hg : A.guards = some []) :
    PSs (cxOf (L2.CX P w) P w K mg base N_law "law" (defScope s_law) f cdv A outer s H E) (defBody s_law) (tEx (GG K cc) XR0 (fun c d _ H => E c d H) [] g_law) := by
  have B : Bx (GG K cc) (fun c d _ H => E c d H) 4 (cxOf (L2.CX P w) P w K mg base N_law "law" (defScope s_law) f cdv A outer s H E) := Bx.of rfl sc_law.nd hr hg
  unfold g_law fb_law_3 ft_law_3 ce_law_1 cc_law_1 ct_law_1 fb_law_2 ft_law_2 fb_law_1 ft_law_1
  exact (es_cons (es_for B.po B.calm (ei_range1 (gl_law_range rfl) bn.b_range (ea_cons (ev_callB2 (call_max2 B.calm) o_max (gl_law_max rfl) bn.b_max (by decide +kernel) ev_int (ev_callB2 (call_min2 B.calm) o_min (gl_law_min rfl) bn.b_min (by decide +kernel) (ev_callB1 call_lenAll o_len (gl_law_len rfl) bn.b_len (by decide +kernel) (ev_name (nv_law_0 rfl rfl))) ev_int)) ea_nil)) (eg_name (pg_name (i := 1) B.nd rfl (lc_law_1 rfl))) (es_cons (es_set (i := 2) B.nd rfl (lc_law_2 rfl) (ev_call I_L_pot.fn (B.room.mono (by decide)) B.gu B.tk (gl_law_L_pot rfl) I_L_pot.mg I_L_pot.kp I_L_pot.bd (ea_cons (ev_name (nv_law_0 rfl rfl)) (ea_cons (ev_name (nv_law_1 rfl rfl)) ea_nil)))) (es_cons (es_asg (ev_tup (ea_cons (ev_callM I_L_line.fn (B.room.mono (by decide)) B.gu B.tk (gl_law_L_line rfl) I_L_line.mg I_L_line.kp I_L_line.bd (nv_law_2 rfl rfl) ea_nil) (ea_cons (ev_callM I_L_line.fn (B.room.mono (by decide)) B.gu B.tk (gl_law_L_line rfl) I_L_line.mg I_L_line.kp I_L_line.bd (nv_law_2 rfl rfl) ea_nil) ea_nil))) (eg_tup B.calm B.kk (egs_cons (eg_name (pg_name (i := 3) B.nd rfl (lc_law_3 rfl))) (egs_cons (eg_name (pg_name (i := 4) B.nd rfl (lc_law_4 rfl))) egs_nil)))) (es_cons (es_for B.po B.calm (ei_seq B.kk (ev_lst (ea_cons ev_int (ea_cons (ev_callM I_L_digit.fn (B.room.mono (by decide)) B.gu B.tk (gl_law_L_digit rfl) I_L_digit.mg I_L_digit.kp I_L_digit.bd (nv_law_2 rfl rfl) (ea_cons ev_int ea_nil)) (ea_cons (ev_callM I_L_number.fn (B.room.mono (by decide)) B.gu B.tk (gl_law_L_number rfl) I_L_number.mg I_L_number.kp I_L_number.bd (nv_law_2 rfl rfl) ea_nil) (ea_cons (ev_callM I_L_far.fn (B.room.mono (by decide)) B.gu B.tk (gl_law_L_far rfl) I_L_far.mg I_L_far.kp I_L_far.bd (nv_law_2 rfl rfl) ea_nil) ea_nil)))))) (eg_name (pg_name (i := 5) B.nd rfl (lc_law_5 rfl))) (es_cons (es_if (PW.pt (ew_or (et_not (et_val (ev_call I_L_told.fn (B.room.mono (by decide)) B.gu B.tk (gl_law_L_told rfl) I_L_told.mg I_L_told.kp I_L_told.bd (ea_cons (ev_name (nv_law_3 rfl rfl)) (ea_cons (ev_name (nv_law_5 rfl rfl)) ea_nil))))) (ew_or1 (et_not (et_val (ev_call I_L_told.fn (B.room.mono (by decide)) B.gu B.tk (gl_law_L_told rfl) I_L_told.mg I_L_told.kp I_L_told.bd (ea_cons (ev_name (nv_law_4 rfl rfl)) (ea_cons (ev_name (nv_law_5 rfl rfl)) ea_nil)))))))) (es_one (es_ret ev_bl)) es_nil) (es_one (es_for B.po B.calm (ei_seq B.kk (ev_callM I_L_tickets.fn (B.room.mono (by decide)) B.gu B.tk (gl_law_L_tickets rfl) I_L_tickets.mg I_L_tickets.kp I_L_tickets.bd (nv_law_2 rfl rfl) (ea_cons (ev_name (nv_law_3 rfl rfl)) (ea_cons (ev_name (nv_law_4 rfl rfl)) (ea_cons (ev_name (nv_law_5 rfl rfl)) ea_nil))))) (eg_name (pg_name (i := 6) B.nd rfl (lc_law_6 rfl))) (es_one (es_if (PW.pt (ew_or (et_not (et_val (ev_call I_L_back.fn (B.room.mono (by decide)) B.gu B.tk (gl_law_L_back rfl) I_L_back.mg I_L_back.kp I_L_back.bd (ea_cons (ev_name (nv_law_3 rfl rfl)) (ea_cons (ev_name (nv_law_6 rfl rfl)) ea_nil))))) (ew_or1 (et_not (et_val (ev_call I_L_back.fn (B.room.mono (by decide)) B.gu B.tk (gl_law_L_back rfl) I_L_back.mg I_L_back.kp I_L_back.bd (ea_cons (ev_name (nv_law_4 rfl rfl)) (ea_cons (ev_name (nv_law_6 rfl rfl)) ea_nil)))))))) (es_one (es_ret ev_bl)) es_nil)))))) (es_cons (es_set (i := 7) B.nd rfl (lc_law_7 rfl) (ev_lst (ea_cons (ev_un un_neg o_neg ev_int) (ea_cons (ev_op op_sub o_sub (ev_op op_sub o_sub ev_int ev_int) (ev_op op_fdivW o_div (ev_callM I_L_number.fn (B.room.mono (by decide)) B.gu B.tk (gl_law_L_number rfl) I_L_number.mg I_L_number.kp I_L_number.bd (nv_law_2 rfl rfl) ea_nil) ev_int)) (ea_cons ev_non (ea_cons ev_bl (ea_cons ev_bl (ea_cons ev_str (ea_cons (ev_tup (ea_cons ev_int ea_nil)) (ea_cons (ev_lst (ea_cons ev_int ea_nil)) (ea_cons ev_dct0 (ea_cons (ev_tup ea_nil) ea_nil)))))))))))) (es_one (es_if (PW.pt (ew_or (et_not (et_val (ev_callB1 (cr_all B.calm) o_all (gl_law_all rfl) bn.b_all (by decide +kernel) (ev_lc B.calm B.nd (ei_seq B.kk (ev_name (nv_law_7 rfl rfl))) (blkOk_by (N := N_law) (sc := defScope s_law) (own := [("_law_spin", 5)]) (by decide +kernel)) (fun s1 H1 C1 cl1 fp1 => (eg_name (pg_name (i := 5) (B.blk s1 H1 _ _ fp1).nd rfl (.inl (by kernel_rfl))))) (fun s1 H1 C1 cl1 fp1 => ets_nil) (fun s1 H1 C1 cl1 fp1 => (ev_call I_L_refused.fn ((B.blk s1 H1 _ _ fp1).room.mono (by decide)) (B.blk s1 H1 _ _ fp1).gu (B.blk s1 H1 _ _ fp1).tk (by unfold Gl; kernel_rfl) I_L_refused.mg I_L_refused.kp I_L_refused.bd (ea_cons (ev_name (pe_var (i := 3) rfl (.inr (.inl (by kernel_rfl))))) (ea_cons (ev_name (pe_var (i := 5) rfl (.inl (by kernel_rfl)))) ea_nil)))) (show ∀ j, j < 8 → j ∉ [5] → j ∈ [0, 1, 2, 3, 4, 6, 7] by decide))))) (ew_or1 (et_not (et_val (ev_call I_L_told.fn (B.room.mono (by decide)) B.gu B.tk (gl_law_L_told rfl) I_L_told.mg I_L_told.kp I_L_told.bd (ea_cons (ev_name (nv_law_3 rfl rfl)) (ea_cons ev_int ea_nil)))))))) (es_one (es_ret ev_bl)) es_nil))))))) (es_one (es_ret ev_bl)))
end K12
namespace K12
open PySem Tk

def Pot (d : D) : Prop := ∃ a b : Int, d = .lst [.int a, .int b] ∧ 0 ≤ a ∧ 0 ≤ b ∧ b < 2 ^ 32
theorem digit {d : D} {m : Int} (h : Pot d) (h0 : 0 < m) (h1 : m.natAbs < 2 ^ 2000) : ∃ r d', P_L_digit d [.int m] = some (.ok (.dat (.int r)) d') ∧ 0 ≤ r ∧ r < m ∧ Pot d' := by
  obtain ⟨a, b, rfl, ha, hb, hb2⟩ := h
  have hd : divOk a m = true := divOk_of h0 h1
  by_cases hp : 0 < a
  · refine ⟨a % m, .lst [.int (a / m), .int b], ?_, Int.emod_nonneg _ (by omega), Int.emod_lt_of_pos _ h0, a / m, b, rfl, Int.ediv_nonneg ha (by omega), hb, hb2⟩
    simp [P_L_digit, g_L_digit, runP, runM, startE, startM, sSeq, seqK, sNil, sRet, sRetN, sExpr, sIf, sSet, setK, sAsg, sPar, parK, rsl, sAug, sFor, cTest, tAndF, tOrF, tNotF, tYesF, tChainF, chK, cAndV, cOrV, cNotV, cIfE, cBin, cUn, fin1, fin2, peek, cName, cC, cTup, cLst, aNil, aCons, cUse, use, bd, RV.out, RV.cell, cCall, callK, cCallM, callMK, cCallT, cCallK, pick, ownAt, own0, not0, retOf, gNm, gTp, gsCons, gsNil, gIx, iRg1, iRg2, iIt, iter1, cSl, oNone, oSome, fSl, fII, fII0, fAdd, fIAdd, fIx, fLen, fNeg, fAbs, fInt, fIsN, isNon, L2.atI, L2.ixN, sRaise, sTryAs, leaveX, noX, outX, cIsE, cDct0, fAll, fAny, blsOf, blOf, fList, fTuple, cMeth, fAppend, cBot, sBot, hp, hd]
  · have m1 : mulOk b 39373 = true := mulOk_of (sm (m := 4294967296) hb (by omega)) (by decide +kernel)
    have b0 : 0 ≤ (b * 39373 + 12227) % 2147483629 := Int.emod_nonneg _ (by omega)
    have b1 : (b * 39373 + 12227) % 2147483629 < 2147483629 := Int.emod_lt_of_pos _ (by omega)
    generalize hB : (b * 39373 + 12227) % 2147483629 = B at *
    have m2 : mulOk B B = true := mulOk_of (sm (m := 4294967296) b0 (by omega)) (sm (m := 4294967296) b0 (by omega))
    have m3 : divOk (B * B % 2147483563) 13 = true := divOk_of (by omega) (by decide +kernel)
    refine ⟨B * B % 2147483563 / 13 % m, .lst [.int a, .int B], ?_, Int.emod_nonneg _ (by omega), Int.emod_lt_of_pos _ h0, a, B, rfl, ha, b0, by omega⟩
    simp [P_L_digit, g_L_digit, runP, runM, startE, startM, sSeq, seqK, sNil, sRet, sRetN, sExpr, sIf, sSet, setK, sAsg, sPar, parK, rsl, sAug, sFor, cTest, tAndF, tOrF, tNotF, tYesF, tChainF, chK, cAndV, cOrV, cNotV, cIfE, cBin, cUn, fin1, fin2, peek, cName, cC, cTup, cLst, aNil, aCons, cUse, use, bd, RV.out, RV.cell, cCall, callK, cCallM, callMK, cCallT, cCallK, pick, ownAt, own0, not0, retOf, gNm, gTp, gsCons, gsNil, gIx, iRg1, iRg2, iIt, iter1, cSl, oNone, oSome, fSl, fII, fII0, fAdd, fIAdd, fIx, fLen, fNeg, fAbs, fInt, fIsN, isNon, L2.atI, L2.ixN, sRaise, sTryAs, leaveX, noX, outX, cIsE, cDct0, fAll, fAny, blsOf, blOf, fList, fTuple, cMeth, fAppend, cBot, sBot, hp, m1, hB, m2, m3, h0]
def Ltr (x : Str) : Prop := ∃ c, x = ⟨#[c]⟩ ∧ c < 128
theorem Ltr.ok {x : Str} (h : Ltr x) : StrOk x := by
  obtain ⟨c, rfl, hc⟩ := h
  exact .ltr hc
/-! a letter -/
theorem abc_len : (Str.ofString "abcdefghijklmnopqrstuvwxyz").cps.toList = (List.range 26).map (97 + ·) := by decide +kernel
theorem letter {d : D} (h : Pot d) : ∃ x d', P_L_letter d [] = some (.ok (.dat (.str x)) d') ∧ Ltr x ∧ Pot d' := by
  obtain ⟨r, d', e, r0, r1, p⟩ := digit (m := 26) h (by omega) (by decide +kernel)
  have hat : L2.atI (Str.ofString "abcdefghijklmnopqrstuvwxyz").cps.toList r = some (97 + r.toNat) := by
    rw [abc_len]
    refine at_nat r0 ?_
    have hlt : r.toNat < 26 := by omega
    rw [List.getElem?_map, List.getElem?_range hlt]
    rfl
  have hz : szOk (Str.ofString "abcdefghijklmnopqrstuvwxyz").length = true := by decide +kernel
  refine ⟨⟨#[97 + r.toNat]⟩, d', ?_, ⟨_, rfl, by omega⟩, p⟩
  simp only [P_L_letter, runM, g_L_letter, startM, sRet, cBin, cC, bd, cCallM, ownAt, aCons, aNil, cUse, use, List.getElem?_cons_zero, List.length_cons, List.length_nil, e, callMK, fin2, peek, fIx, hz, if_true, hat, Option.map_some, own0, retOf, RV.out, List.set_cons_zero, not0, List.map_nil, List.nil_append]
theorem far {d : D} (h : Pot d) : ∃ r d', P_L_far d [] = some (.ok (.dat (.int r)) d') ∧ 0 ≤ r ∧ r < 10 ^ 60 ∧ Pot d' := by
  have loop := for_run (g := ft_L_far_1) (b := fb_L_far_1) (fun k env => ∃ d' r c, env = [some (.own d'), some (.dat (.int r)), c] ∧ Pot d' ∧ 0 ≤ r ∧ r < (100000000 : Int) ^ k) (Tk.intsFrom 0 8) 0 [some (.own d), some (.dat (.int 0)), none] ?_ ⟨d, 0, none, rfl, h, by omega, by simp⟩
  · obtain ⟨e', h5, d', r, c, rfl, p, r0, r1⟩ := loop
    refine ⟨r % 10 ^ 60, d', ?_, Int.emod_nonneg _ (by decide), Int.emod_lt_of_pos _ (by decide), p⟩
    have hp : powOk 10 60 = true := powOk_lit (by decide) (by decide) (by decide)
    simp [P_L_far, g_L_far, runP, runM, startE, startM, sSeq, seqK, sNil, sRet, sRetN, sExpr, sIf, sSet, setK, sAsg, sPar, parK, rsl, sAug, sFor, cTest, tAndF, tOrF, tNotF, tYesF, tChainF, chK, cAndV, cOrV, cNotV, cIfE, cBin, cUn, fin1, fin2, peek, cName, cC, cTup, cLst, aNil, aCons, cUse, use, bd, RV.out, RV.cell, cCall, callK, cCallM, callMK, cCallT, cCallK, pick, ownAt, own0, not0, retOf, gNm, gTp, gsCons, gsNil, gIx, iRg1, iRg2, iIt, iter1, cSl, oNone, oSome, fSl, fII, fII0, fAdd, fIAdd, fIx, fLen, fNeg, fAbs, fInt, fIsN, isNon, L2.atI, L2.ixN, sRaise, sTryAs, leaveX, noX, outX, cIsE, cDct0, fAll, fAny, blsOf, blOf, fList, fTuple, cMeth, fAppend, cBot, sBot, small62, h5, hp]
  · rintro i dd env hd ⟨d', r, c, rfl, p, r0, r1⟩
    obtain ⟨r2, d2, e2, z0, z1, p2⟩ := digit (m := 100000000) p (by omega) (by decide +kernel)
    have hp : powOk 10 8 = true := powOk_lit (by decide) (by decide) (by decide)
    have hi : i < 8 := by
      have := (List.getElem?_eq_some_iff.mp hd).1
      simpa [Tk.intsFrom] using this
    have hr : r ≤ (100000000 : Int) ^ 8 := by
      have : (100000000 : Int) ^ (0 + i) < 100000000 ^ 8 := Int.pow_lt_pow_of_lt (by decide) (by omega)
      omega
    have hm : mulOk r 100000000 = true := mulOk_of (sm (m := 100000000 ^ 8) r0 (by simpa using hr)) (by decide +kernel)
    refine ⟨[some (.own d'), some (.dat (.int r)), some (.dat dd)], [some (.own d2), some (.dat (.int (r * 100000000 + r2))), some (.dat dd)], ?_, ?_, d2, _, _, rfl, p2, ?_, ?_⟩
    · simp [ft_L_far_1, gNm]
    · simp [fb_L_far_1, runP, runM, startE, startM, sSeq, seqK, sNil, sRet, sRetN, sExpr, sIf, sSet, setK, sAsg, sPar, parK, rsl, sAug, sFor, cTest, tAndF, tOrF, tNotF, tYesF, tChainF, chK, cAndV, cOrV, cNotV, cIfE, cBin, cUn, fin1, fin2, peek, cName, cC, cTup, cLst, aNil, aCons, cUse, use, bd, RV.out, RV.cell, cCall, callK, cCallM, callMK, cCallT, cCallK, pick, ownAt, own0, not0, retOf, gNm, gTp, gsCons, gsNil, gIx, iRg1, iRg2, iIt, iter1, cSl, oNone, oSome, fSl, fII, fII0, fAdd, fIAdd, fIx, fLen, fNeg, fAbs, fInt, fIsN, isNon, L2.atI, L2.ixN, sRaise, sTryAs, leaveX, noX, outX, cIsE, cDct0, fAll, fAny, blsOf, blOf, fList, fTuple, cMeth, fAppend, cBot, sBot, hp, hm, e2]
    · have := Int.mul_nonneg r0 (show (0 : Int) ≤ 100000000 by decide)
      omega
    · rw [show 0 + i + 1 = (0 + i) + 1 from rfl, Int.pow_succ]
      omega
theorem number {d : D} (h : Pot d) : ∃ r d', P_L_number d [] = some (.ok (.dat (.int r)) d') ∧ 0 ≤ r ∧ r < 10 ^ 60 ∧ Pot d' := by
  obtain ⟨r, d1, e, r0, r1, p⟩ := digit (m := 4) h (by omega) (by decide +kernel)
  by_cases h3 : r = 3
  · subst h3
    obtain ⟨r2, d2, e2, z0, z1, p2⟩ := far p
    exact ⟨r2, d2, by simp [P_L_number, g_L_number, runP, runM, startE, startM, sSeq, seqK, sNil, sRet, sRetN, sExpr, sIf, sSet, setK, sAsg, sPar, parK, rsl, sAug, sFor, cTest, tAndF, tOrF, tNotF, tYesF, tChainF, chK, cAndV, cOrV, cNotV, cIfE, cBin, cUn, fin1, fin2, peek, cName, cC, cTup, cLst, aNil, aCons, cUse, use, bd, RV.out, RV.cell, cCall, callK, cCallM, callMK, cCallT, cCallK, pick, ownAt, own0, not0, retOf, gNm, gTp, gsCons, gsNil, gIx, iRg1, iRg2, iIt, iter1, cSl, oNone, oSome, fSl, fII, fII0, fAdd, fIAdd, fIx, fLen, fNeg, fAbs, fInt, fIsN, isNon, L2.atI, L2.ixN, sRaise, sTryAs, leaveX, noX, outX, cIsE, cDct0, fAll, fAny, blsOf, blOf, fList, fTuple, cMeth, fAppend, cBot, sBot, e, eqF_int, e2], z0, z1, p2⟩
  · have hr : r = 0 ∨ r = 1 ∨ r = 2 := by omega
    rcases hr with rfl | rfl | rfl
    · obtain ⟨r2, d2, e2, z0, z1, p2⟩ := digit (m := 4) p (by omega) (by decide +kernel)
      exact ⟨r2, d2, by simp [P_L_number, g_L_number, runP, runM, startE, startM, sSeq, seqK, sNil, sRet, sRetN, sExpr, sIf, sSet, setK, sAsg, sPar, parK, rsl, sAug, sFor, cTest, tAndF, tOrF, tNotF, tYesF, tChainF, chK, cAndV, cOrV, cNotV, cIfE, cBin, cUn, fin1, fin2, peek, cName, cC, cTup, cLst, aNil, aCons, cUse, use, bd, RV.out, RV.cell, cCall, callK, cCallM, callMK, cCallT, cCallK, pick, ownAt, own0, not0, retOf, gNm, gTp, gsCons, gsNil, gIx, iRg1, iRg2, iIt, iter1, cSl, oNone, oSome, fSl, fII, fII0, fAdd, fIAdd, fIx, fLen, fNeg, fAbs, fInt, fIsN, isNon, L2.atI, L2.ixN, sRaise, sTryAs, leaveX, noX, outX, cIsE, cDct0, fAll, fAny, blsOf, blOf, fList, fTuple, cMeth, fAppend, cBot, sBot, e, eqF_int, e2, szOk], z0, by omega, p2⟩
    · obtain ⟨r2, d2, e2, z0, z1, p2⟩ := digit (m := 13) p (by omega) (by decide +kernel)
      exact ⟨r2, d2, by simp [P_L_number, g_L_number, runP, runM, startE, startM, sSeq, seqK, sNil, sRet, sRetN, sExpr, sIf, sSet, setK, sAsg, sPar, parK, rsl, sAug, sFor, cTest, tAndF, tOrF, tNotF, tYesF, tChainF, chK, cAndV, cOrV, cNotV, cIfE, cBin, cUn, fin1, fin2, peek, cName, cC, cTup, cLst, aNil, aCons, cUse, use, bd, RV.out, RV.cell, cCall, callK, cCallM, callMK, cCallT, cCallK, pick, ownAt, own0, not0, retOf, gNm, gTp, gsCons, gsNil, gIx, iRg1, iRg2, iIt, iter1, cSl, oNone, oSome, fSl, fII, fII0, fAdd, fIAdd, fIx, fLen, fNeg, fAbs, fInt, fIsN, isNon, L2.atI, L2.ixN, sRaise, sTryAs, leaveX, noX, outX, cIsE, cDct0, fAll, fAny, blsOf, blOf, fList, fTuple, cMeth, fAppend, cBot, sBot, e, eqF_int, e2, szOk], z0, by omega, p2⟩
    · obtain ⟨r2, d2, e2, z0, z1, p2⟩ := digit (m := 1000) p (by omega) (by decide +kernel)
      exact ⟨r2, d2, by simp [P_L_number, g_L_number, runP, runM, startE, startM, sSeq, seqK, sNil, sRet, sRetN, sExpr, sIf, sSet, setK, sAsg, sPar, parK, rsl, sAug, sFor, cTest, tAndF, tOrF, tNotF, tYesF, tChainF, chK, cAndV, cOrV, cNotV, cIfE, cBin, cUn, fin1, fin2, peek, cName, cC, cTup, cLst, aNil, aCons, cUse, use, bd, RV.out, RV.cell, cCall, callK, cCallM, callMK, cCallT, cCallK, pick, ownAt, own0, not0, retOf, gNm, gTp, gsCons, gsNil, gIx, iRg1, iRg2, iIt, iter1, cSl, oNone, oSome, fSl, fII, fII0, fAdd, fIAdd, fIx, fLen, fNeg, fAbs, fInt, fIsN, isNon, L2.atI, L2.ixN, sRaise, sTryAs, leaveX, noX, outX, cIsE, cDct0, fAll, fAny, blsOf, blOf, fList, fTuple, cMeth, fAppend, cBot, sBot, e, eqF_int, e2, szOk], z0, by omega, p2⟩
theorem pot {ns : List Int} {k : Nat} (hk : k < 63) : ∃ d, P_L_pot [.scr ns, .int k] = some (.ok (.fresh d)) ∧ Pot d := by
  have hpw : powOk 10 18 = true := powOk_lit (by decide) (by decide) (by decide)
  have fin : ∀ c : Int, mulOk ((if c < 0 then -c else c) % 2147483629) 48271 = true := fun c => by
    have h0 := Int.emod_nonneg (if c < 0 then -c else c) (show (2147483629 : Int) ≠ 0 by decide)
    have h1 := Int.emod_lt_of_pos (if c < 0 then -c else c) (show (0 : Int) < 2147483629 by decide)
    exact mulOk_of (sm (m := 4294967296) h0 (by omega)) (by decide +kernel)
  have hk2 : mulOk 60013 (k : Int) = true := mulOk_of (by decide +kernel) (sm (m := 100) (by omega) (by omega))
  have ok : ∀ c : Int, Pot (.lst [.int (if (if c < 0 then -c else c) - 10 ^ 18 > 0 then (if c < 0 then -c else c) - 10 ^ 18 else 0), .int (((if c < 0 then -c else c) % 2147483629 * 48271 + 60013 * k + 29) % 2147483647)]) := fun c => by
    refine ⟨_, _, rfl, ?_, Int.emod_nonneg _ (by decide), ?_⟩
    · split <;> omega
    · have := Int.emod_lt_of_pos ((if c < 0 then -c else c) % 2147483629 * 48271 + 60013 * k + 29) (show (0 : Int) < 2147483647 by decide)
      omega
  by_cases h : k < ns.length
  · have hat : L2.atI ns (k : Int) = some ns[k] := L2.atI_nat (List.getElem?_eq_getElem h)
    refine ⟨_, ?_, ok ns[k]⟩
    simp [P_L_pot, g_L_pot, runP, runM, startE, startM, sSeq, seqK, sNil, sRet, sRetN, sExpr, sIf, sSet, setK, sAsg, sPar, parK, rsl, sAug, sFor, cTest, tAndF, tOrF, tNotF, tYesF, tChainF, chK, cAndV, cOrV, cNotV, cIfE, cBin, cUn, fin1, fin2, peek, cName, cC, cTup, cLst, aNil, aCons, cUse, use, bd, RV.out, RV.cell, cCall, callK, cCallM, callMK, cCallT, cCallK, pick, ownAt, own0, not0, retOf, gNm, gTp, gsCons, gsNil, gIx, iRg1, iRg2, iIt, iter1, cSl, oNone, oSome, fSl, fII, fII0, fAdd, fIAdd, fIx, fLen, fNeg, fAbs, fInt, fIsN, isNon, sRaise, sTryAs, leaveX, noX, outX, cIsE, cDct0, fAll, fAny, blsOf, blOf, fList, fTuple, cMeth, fAppend, cBot, sBot, h, hat, hpw, fin, hk2, szOk]
  · refine ⟨_, ?_, ok 0⟩
    have := fin 0
    simp at this
    simp [P_L_pot, g_L_pot, runP, runM, startE, startM, sSeq, seqK, sNil, sRet, sRetN, sExpr, sIf, sSet, setK, sAsg, sPar, parK, rsl, sAug, sFor, cTest, tAndF, tOrF, tNotF, tYesF, tChainF, chK, cAndV, cOrV, cNotV, cIfE, cBin, cUn, fin1, fin2, peek, cName, cC, cTup, cLst, aNil, aCons, cUse, use, bd, RV.out, RV.cell, cCall, callK, cCallM, callMK, cCallT, cCallK, pick, ownAt, own0, not0, retOf, gNm, gTp, gsCons, gsNil, gIx, iRg1, iRg2, iIt, iter1, cSl, oNone, oSome, fSl, fII, fII0, fAdd, fIAdd, fIx, fLen, fNeg, fAbs, fInt, fIsN, isNon, sRaise, sTryAs, leaveX, noX, outX, cIsE, cDct0, fAll, fAny, blsOf, blOf, fList, fTuple, cMeth, fAppend, cBot, sBot, h, hpw, hk2, szOk, this]

abbrev lineD (x : Str) (f p : Int) : D := .tup [.str x, .int f, .int p]
abbrev tickD (x : Str) (n : Int) : D := .tup [.str x, .int n]
structure Ln (x : Str) (f p : Int) : Prop where
  l : Ltr x
  f0 : 0 ≤ f
  f1 : f < 10 ^ 60
  p0 : 0 < p
  p1 : p < 10 ^ 60
theorem line {d : D} (h : Pot d) : ∃ x f p d', P_L_line d [] = some (.ok (.dat (lineD x f p)) d') ∧ Ln x f p ∧ Pot d' := by
  obtain ⟨x, d1, e1, lx, p1⟩ := letter h
  obtain ⟨n, d2, e2, n0, n1, p2⟩ := number p1
  obtain ⟨m, d3, e3, m0, m1, p3⟩ := number p2
  refine ⟨x, n, if m > 1 then m else 1, d3, ?_, ⟨lx, n0, n1, by split <;> omega, by split <;> omega⟩, p3⟩
  simp [P_L_line, g_L_line, runP, runM, startE, startM, sSeq, seqK, sNil, sRet, sRetN, sExpr, sIf, sSet, setK, sAsg, sPar, parK, rsl, sAug, sFor, cTest, tAndF, tOrF, tNotF, tYesF, tChainF, chK, cAndV, cOrV, cNotV, cIfE, cBin, cUn, fin1, fin2, peek, cName, cC, cTup, cLst, aNil, aCons, cUse, use, bd, RV.out, RV.cell, cCall, callK, cCallM, callMK, cCallT, cCallK, pick, ownAt, own0, not0, retOf, gNm, gTp, gsCons, gsNil, gIx, iRg1, iRg2, iIt, iter1, cSl, oNone, oSome, fSl, fII, fII0, fAdd, fIAdd, fIx, fLen, fNeg, fAbs, fInt, fIsN, isNon, L2.atI, L2.ixN, sRaise, sTryAs, leaveX, noX, outX, cIsE, cDct0, fAll, fAny, blsOf, blOf, fList, fTuple, cMeth, fAppend, cBot, sBot, e1, e2, e3, szOk]
/-! the program -/
theorem k_ni : L2.kitB "NoneType" "int" = some false := by decide +kernel
theorem k_bi : L2.kitB "bool" "int" = some true := by decide +kernel
theorem k_bb : L2.kitB "bool" "bool" = some true := by decide +kernel
theorem k_si : L2.kitB "str" "int" = some false := by decide +kernel
theorem k_ti : L2.kitB "tuple" "int" = some false := by decide +kernel
theorem k_li : L2.kitB "list" "int" = some false := by decide +kernel
theorem k_di : L2.kitB "dict" "int" = some false := by decide +kernel
theorem isWhole (i : Int) : P_is_whole [.int i] = some (.ok (.dat (.bl (decide (0 ≤ i))))) := by
  simp [P_is_whole, g_is_whole, runP, runM, startE, startM, sSeq, seqK, sNil, sRet, sRetN, sExpr, sIf, sSet, setK, sAsg, sPar, parK, rsl, sAug, sFor, cTest, tAndF, tOrF, tNotF, tYesF, tChainF, chK, cAndV, cOrV, cNotV, cIfE, cBin, cUn, fin1, fin2, peek, cName, cC, cTup, cLst, aNil, aCons, cUse, use, bd, RV.out, RV.cell, cCall, callK, cCallM, callMK, cCallT, cCallK, pick, ownAt, own0, not0, retOf, gNm, gTp, gsCons, gsNil, gIx, iRg1, iRg2, iIt, iter1, cSl, oNone, oSome, fSl, fII, fII0, fAdd, fIAdd, fIx, fLen, fNeg, fAbs, fInt, fIsN, isNon, L2.atI, L2.ixN, sRaise, sTryAs, leaveX, noX, outX, cIsE, cDct0, fAll, fAny, blsOf, blOf, fList, fTuple, cMeth, fAppend, cBot, sBot, ty_int, ty_nobool]
def Odd (d : D) : Prop := P_is_whole [d] = some (.ok (.dat (.bl false)))
theorem toldAt {x : Str} {f p t : Int} (a : Ln x f p) (h0 : 0 ≤ t) (h1 : t < 10 ^ 60) : P_told_at [lineD x f p, .int t] = some (.ok (.dat (tickD x (f + t * p)))) := by
  have m : mulOk t p = true := mulOk_of (sm (m := 10 ^ 60) h0 (by omega)) (sm (m := 10 ^ 60) (by have := a.p0; omega) (by have := a.p1; omega))
  simp [P_told_at, g_told_at, runP, runM, startE, startM, sSeq, seqK, sNil, sRet, sRetN, sExpr, sIf, sSet, setK, sAsg, sPar, parK, rsl, sAug, sFor, cTest, tAndF, tOrF, tNotF, tYesF, tChainF, chK, cAndV, cOrV, cNotV, cIfE, cBin, cUn, fin1, fin2, peek, cName, cC, cTup, cLst, aNil, aCons, cUse, use, bd, RV.out, RV.cell, cCall, callK, cCallM, callMK, cCallT, cCallK, pick, ownAt, own0, not0, retOf, gNm, gTp, gsCons, gsNil, gIx, iRg1, iRg2, iIt, iter1, cSl, oNone, oSome, fSl, fII, fII0, fAdd, fIAdd, fIx, fLen, fNeg, fAbs, fInt, fIsN, isNon, L2.atI, L2.ixN, sRaise, sTryAs, leaveX, noX, outX, cIsE, cDct0, fAll, fAny, blsOf, blOf, fList, fTuple, cMeth, fAppend, cBot, sBot, isWhole, h0, m, szOk]
theorem toldOdd {x : Str} {f p : Int} {d : D} (h : Odd d) : P_told_at [lineD x f p, d] = some (.ex ⟨0, []⟩) := by
  unfold Odd at h
  simp [P_told_at, g_told_at, runP, runM, startE, startM, sSeq, seqK, sNil, sRet, sRetN, sExpr, sIf, sSet, setK, sAsg, sPar, parK, rsl, sAug, sFor, cTest, tAndF, tOrF, tNotF, tYesF, tChainF, chK, cAndV, cOrV, cNotV, cIfE, cBin, cUn, fin1, fin2, peek, cName, cC, cTup, cLst, aNil, aCons, cUse, use, bd, RV.out, RV.cell, cCall, callK, cCallM, callMK, cCallT, cCallK, pick, ownAt, own0, not0, retOf, gNm, gTp, gsCons, gsNil, gIx, iRg1, iRg2, iIt, iter1, cSl, oNone, oSome, fSl, fII, fII0, fAdd, fIAdd, fIx, fLen, fNeg, fAbs, fInt, fIsN, isNon, L2.atI, L2.ixN, sRaise, sTryAs, leaveX, noX, outX, cIsE, cDct0, fAll, fAny, blsOf, blOf, fList, fTuple, cMeth, fAppend, cBot, sBot, h]
/-- what turn_of tells -/
def backD (x : Str) (f p : Int) (y : Str) (n : Int) : D := if y = x ∧ f ≤ n ∧ (n - f) % p = 0 then .int ((n - f) / p) else .non
theorem turnOf {x y : Str} {f p n : Int} (a : Ln x f p) : P_turn_of [lineD x f p, tickD y n] = some (.ok (.dat (backD x f p y n))) := by
  have d1 : divOk (n - f) p = true := divOk_of a.p0 (sm (m := 10 ^ 60) (by have := a.p0; omega) (by have := a.p1; omega))
  unfold backD
  by_cases hxy : y = x
  · subst hxy
    by_cases hl : n < f
    · have hl' : ¬ f ≤ n := by omega
      simp [P_turn_of, g_turn_of, runP, runM, startE, startM, sSeq, seqK, sNil, sRet, sRetN, sExpr, sIf, sSet, setK, sAsg, sPar, parK, rsl, sAug, sFor, cTest, tAndF, tOrF, tNotF, tYesF, tChainF, chK, cAndV, cOrV, cNotV, cIfE, cBin, cUn, fin1, fin2, peek, cName, cC, cTup, cLst, aNil, aCons, cUse, use, bd, RV.out, RV.cell, cCall, callK, cCallM, callMK, cCallT, cCallK, pick, ownAt, own0, not0, retOf, gNm, gTp, gsCons, gsNil, gIx, iRg1, iRg2, iIt, iter1, cSl, oNone, oSome, fSl, fII, fII0, fAdd, fIAdd, fIx, fLen, fNeg, fAbs, fInt, fIsN, isNon, L2.atI, L2.ixN, sRaise, sTryAs, leaveX, noX, outX, cIsE, cDct0, fAll, fAny, blsOf, blOf, fList, fTuple, cMeth, fAppend, cBot, sBot, eqF_strs, hl, hl']
    · by_cases hr : (n - f) % p = 0
      · have hl' : f ≤ n := by omega
        simp [P_turn_of, g_turn_of, runP, runM, startE, startM, sSeq, seqK, sNil, sRet, sRetN, sExpr, sIf, sSet, setK, sAsg, sPar, parK, rsl, sAug, sFor, cTest, tAndF, tOrF, tNotF, tYesF, tChainF, chK, cAndV, cOrV, cNotV, cIfE, cBin, cUn, fin1, fin2, peek, cName, cC, cTup, cLst, aNil, aCons, cUse, use, bd, RV.out, RV.cell, cCall, callK, cCallM, callMK, cCallT, cCallK, pick, ownAt, own0, not0, retOf, gNm, gTp, gsCons, gsNil, gIx, iRg1, iRg2, iIt, iter1, cSl, oNone, oSome, fSl, fII, fII0, fAdd, fIAdd, fIx, fLen, fNeg, fAbs, fInt, fIsN, isNon, L2.atI, L2.ixN, sRaise, sTryAs, leaveX, noX, outX, cIsE, cDct0, fAll, fAny, blsOf, blOf, fList, fTuple, cMeth, fAppend, cBot, sBot, eqF_strs, hl, hl', d1, eqF_int, hr]
      · simp [P_turn_of, g_turn_of, runP, runM, startE, startM, sSeq, seqK, sNil, sRet, sRetN, sExpr, sIf, sSet, setK, sAsg, sPar, parK, rsl, sAug, sFor, cTest, tAndF, tOrF, tNotF, tYesF, tChainF, chK, cAndV, cOrV, cNotV, cIfE, cBin, cUn, fin1, fin2, peek, cName, cC, cTup, cLst, aNil, aCons, cUse, use, bd, RV.out, RV.cell, cCall, callK, cCallM, callMK, cCallT, cCallK, pick, ownAt, own0, not0, retOf, gNm, gTp, gsCons, gsNil, gIx, iRg1, iRg2, iIt, iter1, cSl, oNone, oSome, fSl, fII, fII0, fAdd, fIAdd, fIx, fLen, fNeg, fAbs, fInt, fIsN, isNon, L2.atI, L2.ixN, sRaise, sTryAs, leaveX, noX, outX, cIsE, cDct0, fAll, fAny, blsOf, blOf, fList, fTuple, cMeth, fAppend, cBot, sBot, eqF_strs, hl, d1, eqF_int, hr]
  · simp [P_turn_of, g_turn_of, runP, runM, startE, startM, sSeq, seqK, sNil, sRet, sRetN, sExpr, sIf, sSet, setK, sAsg, sPar, parK, rsl, sAug, sFor, cTest, tAndF, tOrF, tNotF, tYesF, tChainF, chK, cAndV, cOrV, cNotV, cIfE, cBin, cUn, fin1, fin2, peek, cName, cC, cTup, cLst, aNil, aCons, cUse, use, bd, RV.out, RV.cell, cCall, callK, cCallM, callMK, cCallT, cCallK, pick, ownAt, own0, not0, retOf, gNm, gTp, gsCons, gsNil, gIx, iRg1, iRg2, iIt, iter1, cSl, oNone, oSome, fSl, fII, fII0, fAdd, fIAdd, fIx, fLen, fNeg, fAbs, fInt, fIsN, isNon, L2.atI, L2.ixN, sRaise, sTryAs, leaveX, noX, outX, cIsE, cDct0, fAll, fAny, blsOf, blOf, fList, fTuple, cMeth, fAppend, cBot, sBot, eqF_strs, hxy]
theorem rpI {n : Int} (hn : n.natAbs < 10 ^ 125) : ∃ s, fRepr (.int n) = some (.dat (.str s)) := by
  have h0 : toPy (.int n) = some (.int n) := by simp [toPy]
  refine ⟨_, fRepr_of (B := 200) (by omega) h0 ⟨?_, ?_, ?_, rfl, by simp only [PyData.bulk]; omega⟩⟩
  · exact int_show (Nat.lt_trans hn (by decide +kernel))
  · exact shaped_int n
  · have h1 := int_short (by omega) hn
    simp only [PyData.leavesShort, decide_eq_true_eq]
    omega
theorem rpN : ∃ s, fRepr .non = some (.dat (.str s)) := ⟨_, fRepr_of (B := 200) (by omega) (show toPy (.non) = some .none by unfold toPy; rfl) ⟨by decide, by decide, by decide, by decide, by decide⟩⟩
theorem rpT {x : Str} (l : Ltr x) {n : Int} (hn : n.natAbs < 10 ^ 125) : ∃ s, fRepr (tickD x n) = some (.dat (.str s)) := by
  have h0 : toPy (.tup [.str x, .int n]) = some (.tuple [.str x, .int n]) := by simp [toPy, toPys]
  refine ⟨_, fRepr_of (B := 200) (by omega) h0 ⟨?_, ?_, ?_, ?_, ?_⟩⟩
  · have := int_show (Nat.lt_trans hn (by decide +kernel))
    simp [PyData.showable, PyData.showableAll] at this ⊢
    exact this
  · simp [SeqAt.shaped, PyData.canLay0, PyData.canLayAll0, PyData.depth, PyData.depthAll, l.ok.1]
  · have h1 := int_short (by omega) hn
    have h2 := l.ok.2.1
    simp only [PyData.leavesShort, PyData.leavesShortAll, Bool.and_eq_true, decide_eq_true_eq]
    exact ⟨h2, by omega, trivial⟩
  · rfl
  · have h3 := l.ok.2.2
    simp only [PyData.bulk, PyData.bulkAll]
    omega
theorem lt_mul {a b : Int} {A B : Int} (h0 : 0 ≤ a) (h1 : a < A) (h2 : 0 ≤ b) (h3 : b ≤ B) (hA : 0 ≤ A) : a * b ≤ A * B := Int.mul_le_mul (by omega) h3 h2 hA
theorem told {x : Str} {f p t : Int} (a : Ln x f p) (h0 : 0 ≤ t) (h1 : t < 10 ^ 60) : P_L_told [lineD x f p, .int t] = some (.ok (.dat (.bl true))) := by
  have p0 := a.p0
  have p1 := a.p1
  have f0 := a.f0
  have f1 := a.f1
  have m : mulOk t p = true := mulOk_of (sm (m := 10 ^ 60) h0 (by omega)) (sm (m := 10 ^ 60) (by omega) (by omega))
  have e1 := toldAt a h0 h1
  have tp0 : 0 ≤ t * p := Int.mul_nonneg h0 (by omega)
  have tp1 : t * p ≤ 10 ^ 60 * 10 ^ 60 := lt_mul h0 h1 (by omega) (by omega) (by omega)
  have e2 : P_turn_of [lineD x f p, tickD x (f + t * p)] = some (.ok (.dat (.int t))) := by
    rw [turnOf a]
    unfold backD
    have h3 : f + t * p - f = t * p := by omega
    rw [h3, if_pos ⟨rfl, by omega, Int.mul_emod_left t p⟩, Int.mul_ediv_cancel _ (by omega)]
  obtain ⟨s1, r1⟩ := rpT a.l (n := f + t * p) (by omega)
  obtain ⟨s2, r2⟩ := rpI (n := t) (by omega)
  simp [P_L_told, g_L_told, runP, runM, startE, startM, sSeq, seqK, sNil, sRet, sRetN, sExpr, sIf, sSet, setK, sAsg, sPar, parK, rsl, sAug, sFor, cTest, tAndF, tOrF, tNotF, tYesF, tChainF, chK, cAndV, cOrV, cNotV, cIfE, cBin, cUn, fin1, fin2, peek, cName, cC, cTup, cLst, aNil, aCons, cUse, use, bd, RV.out, RV.cell, cCall, callK, cCallM, callMK, cCallT, cCallK, pick, ownAt, own0, not0, retOf, gNm, gTp, gsCons, gsNil, gIx, iRg1, iRg2, iIt, iter1, cSl, oNone, oSome, fSl, fII, fII0, fAdd, fIAdd, fIx, fLen, fNeg, fAbs, fInt, fIsN, isNon, L2.atI, L2.ixN, sRaise, sTryAs, leaveX, noX, outX, cIsE, cDct0, fAll, fAny, blsOf, blOf, fList, fTuple, cMeth, fAppend, cBot, sBot, m, e1, e2, r1, r2, ty_tup, eqF_strs, szOk]
theorem back {x y : Str} {f p n : Int} (a : Ln x f p) (n0 : 0 ≤ n) (n1 : n < 10 ^ 60) : P_L_back [lineD x f p, tickD y n] = some (.ok (.dat (.bl true))) := by
  have p0 := a.p0
  have p1 := a.p1
  have f0 := a.f0
  have f1 := a.f1
  have e1 := turnOf (y := y) (n := n) a
  have d1 : divOk (n - f) p = true := divOk_of a.p0 (sm (m := 10 ^ 60) (by omega) (by omega))
  unfold backD at e1
  obtain ⟨s1, r1⟩ := rpN
  by_cases hc : y = x ∧ f ≤ n ∧ (n - f) % p = 0
  · rw [if_pos hc] at e1
    have q0 : 0 ≤ (n - f) / p := Int.ediv_nonneg (by omega) (by omega)
    have q1 : (n - f) / p ≤ n - f := Int.ediv_le_self _ (by omega)
    obtain ⟨s2, r2⟩ := rpI (n := (n - f) / p) (by omega)
    obtain ⟨rfl, hl, hr⟩ := hc
    simp [P_L_back, g_L_back, runP, runM, startE, startM, sSeq, seqK, sNil, sRet, sRetN, sExpr, sIf, sSet, setK, sAsg, sPar, parK, rsl, sAug, sFor, cTest, tAndF, tOrF, tNotF, tYesF, tChainF, chK, cAndV, cOrV, cNotV, cIfE, cBin, cUn, fin1, fin2, peek, cName, cC, cTup, cLst, aNil, aCons, cUse, use, bd, RV.out, RV.cell, cCall, callK, cCallM, callMK, cCallT, cCallK, pick, ownAt, own0, not0, retOf, gNm, gTp, gsCons, gsNil, gIx, iRg1, iRg2, iIt, iter1, cSl, oNone, oSome, fSl, fII, fII0, fAdd, fIAdd, fIx, fLen, fNeg, fAbs, fInt, fIsN, isNon, L2.atI, L2.ixN, sRaise, sTryAs, leaveX, noX, outX, cIsE, cDct0, fAll, fAny, blsOf, blOf, fList, fTuple, cMeth, fAppend, cBot, sBot, eqF_strs, hl, hr, p0, eqF_int, d1, e1, r2]
  · rw [if_neg hc] at e1
    by_cases hxy : y = x
    · subst hxy
      by_cases hl : f ≤ n
      · have hr : ¬ (n - f) % p = 0 := fun z => hc ⟨rfl, hl, z⟩
        simp [P_L_back, g_L_back, runP, runM, startE, startM, sSeq, seqK, sNil, sRet, sRetN, sExpr, sIf, sSet, setK, sAsg, sPar, parK, rsl, sAug, sFor, cTest, tAndF, tOrF, tNotF, tYesF, tChainF, chK, cAndV, cOrV, cNotV, cIfE, cBin, cUn, fin1, fin2, peek, cName, cC, cTup, cLst, aNil, aCons, cUse, use, bd, RV.out, RV.cell, cCall, callK, cCallM, callMK, cCallT, cCallK, pick, ownAt, own0, not0, retOf, gNm, gTp, gsCons, gsNil, gIx, iRg1, iRg2, iIt, iter1, cSl, oNone, oSome, fSl, fII, fII0, fAdd, fIAdd, fIx, fLen, fNeg, fAbs, fInt, fIsN, isNon, L2.atI, L2.ixN, sRaise, sTryAs, leaveX, noX, outX, cIsE, cDct0, fAll, fAny, blsOf, blOf, fList, fTuple, cMeth, fAppend, cBot, sBot, eqF_strs, hl, hr, p0, eqF_int, e1, r1]
      · simp [P_L_back, g_L_back, runP, runM, startE, startM, sSeq, seqK, sNil, sRet, sRetN, sExpr, sIf, sSet, setK, sAsg, sPar, parK, rsl, sAug, sFor, cTest, tAndF, tOrF, tNotF, tYesF, tChainF, chK, cAndV, cOrV, cNotV, cIfE, cBin, cUn, fin1, fin2, peek, cName, cC, cTup, cLst, aNil, aCons, cUse, use, bd, RV.out, RV.cell, cCall, callK, cCallM, callMK, cCallT, cCallK, pick, ownAt, own0, not0, retOf, gNm, gTp, gsCons, gsNil, gIx, iRg1, iRg2, iIt, iter1, cSl, oNone, oSome, fSl, fII, fII0, fAdd, fIAdd, fIx, fLen, fNeg, fAbs, fInt, fIsN, isNon, L2.atI, L2.ixN, sRaise, sTryAs, leaveX, noX, outX, cIsE, cDct0, fAll, fAny, blsOf, blOf, fList, fTuple, cMeth, fAppend, cBot, sBot, eqF_strs, hl, e1, r1]
    · simp [P_L_back, g_L_back, runP, runM, startE, startM, sSeq, seqK, sNil, sRet, sRetN, sExpr, sIf, sSet, setK, sAsg, sPar, parK, rsl, sAug, sFor, cTest, tAndF, tOrF, tNotF, tYesF, tChainF, chK, cAndV, cOrV, cNotV, cIfE, cBin, cUn, fin1, fin2, peek, cName, cC, cTup, cLst, aNil, aCons, cUse, use, bd, RV.out, RV.cell, cCall, callK, cCallM, callMK, cCallT, cCallK, pick, ownAt, own0, not0, retOf, gNm, gTp, gsCons, gsNil, gIx, iRg1, iRg2, iIt, iter1, cSl, oNone, oSome, fSl, fII, fII0, fAdd, fIAdd, fIx, fLen, fNeg, fAbs, fInt, fIsN, isNon, L2.atI, L2.ixN, sRaise, sTryAs, leaveX, noX, outX, cIsE, cDct0, fAll, fAny, blsOf, blOf, fList, fTuple, cMeth, fAppend, cBot, sBot, eqF_strs, hxy, e1, r1]
theorem eqRef : eqF false (.lst [.bl true, .bl true, .bl false, .bl false]) (.lst [.bl true, .bl true, .bl false, .bl false]) = some (.dat (.bl true)) := by
  have h0 : toPy (.lst [.bl true, .bl true, .bl false, .bl false]) = some (.list [.bool true, .bool true, .bool false, .bool false]) := by simp [toPy, toPys]
  rw [eqF_of h0 h0 (by decide) (by decide)]
  rfl
theorem refused {x : Str} {f p : Int} {d : D} (h : Odd d) : P_L_refused [lineD x f p, d] = some (.ok (.dat (.bl true))) := by
  have e1 := toldOdd (x := x) (f := f) (p := p) h
  have z3 : szOk 3 = true := rfl
  have z4 : szOk 4 = true := rfl
  simp [P_L_refused, g_L_refused, tb_L_refused_1, ts_L_refused_1, runP, runM, startE, startM, sSeq, seqK, sNil, sRet, sRetN, sExpr, sIf, sSet, setK, sAsg, sPar, parK, rsl, sAug, sFor, cTest, tAndF, tOrF, tNotF, tYesF, tChainF, chK, cAndV, cOrV, cNotV, cIfE, cBin, cUn, fin1, fin2, peek, cName, cC, cTup, cLst, aNil, aCons, cUse, use, bd, RV.out, RV.cell, cCall, callK, cCallM, callMK, cCallT, cCallK, pick, ownAt, own0, not0, retOf, gNm, gTp, gsCons, gsNil, gIx, iRg1, iRg2, iIt, iter1, cSl, oNone, oSome, fSl, fII, fII0, fAdd, fIAdd, fIx, fLen, fNeg, fAbs, fInt, fIsN, isNon, L2.atI, L2.ixN, sRaise, sTryAs, leaveX, noX, outX, cIsE, cDct0, fAll, fAny, blsOf, blOf, fList, fTuple, cMeth, fAppend, cBot, sBot, e1, mxm_RowsError, mki_NoNumber, mki_ValueError, mki_Absent_Barred_TooMany, mki_NoForm_NoLetter_NoPlace_NoSize_NoTicket, z3, z4, eqRef]
def Tick (d : D) : Prop := ∃ y n, d = tickD y n ∧ 0 ≤ n ∧ n < 10 ^ 60
theorem tick_min (y : Str) {n : Int} (h : 0 ≤ n) : Tick (tickD y (if n < 10 ^ 60 - 1 then n else 10 ^ 60 - 1)) := ⟨y, _, rfl, by split <;> omega, by split <;> omega⟩
theorem tickets {d : D} (h : Pot d) {x y : Str} {f p g q t : Int} (a : Ln x f p) (b : Ln y g q) (t0 : 0 ≤ t) (t1 : t < 10 ^ 60) : ∃ L d', P_L_tickets d [lineD x f p, lineD y g q, .int t] = some (.ok (.fresh (.lst L)) d') ∧ Pot d' ∧ ∀ e ∈ L, Tick e := by
  have p0 := a.p0
  have p1 := a.p1
  have f0 := a.f0
  have f1 := a.f1
  have g0 := b.f0
  have g1 := b.f1
  obtain ⟨r1, d1, e1, r10, r11, q1⟩ := digit (m := 7) h (by omega) (by decide +kernel)
  obtain ⟨r2, d2, e2, r20, r21, q2⟩ := digit (m := 3) q1 (by omega) (by decide +kernel)
  obtain ⟨r3, d3, e3, r30, r31, q3⟩ := digit (m := 2) q2 (by omega) (by decide +kernel)
  obtain ⟨n, d4, e4, n0, n1, q4⟩ := number q3
  have m1 : mulOk t p = true := mulOk_of (sm (m := 10 ^ 60) t0 (by omega)) (sm (m := 10 ^ 60) (by omega) (by omega))
  have m2 : mulOk r2 p = true := mulOk_of (sm (m := 10) r20 (by omega)) (sm (m := 10 ^ 60) (by omega) (by omega))
  have hp : powOk 10 60 = true := powOk_lit (by decide) (by decide) (by decide)
  have tp0 : 0 ≤ t * p := Int.mul_nonneg t0 (by omega)
  have hd : divOk (f + t * p) 2 = true := divOk_of (by omega) (by decide +kernel)
  have z5 : szOk 5 = true := rfl
  have z2 : szOk 2 = true := rfl
  have zz : ∀ k : Nat, k ≤ 10 → szOk k = true := fun k hk => decide_eq_true (by omega)
  refine ⟨[tickD x (if (if f + t * p + r1 - 3 > 0 then f + t * p + r1 - 3 else 0) < 10 ^ 60 - 1 then (if f + t * p + r1 - 3 > 0 then f + t * p + r1 - 3 else 0) else 10 ^ 60 - 1),
    tickD x (if (if f - r2 * p + r3 > 0 then f - r2 * p + r3 else 0) < 10 ^ 60 - 1 then (if f - r2 * p + r3 > 0 then f - r2 * p + r3 else 0) else 10 ^ 60 - 1),
    tickD x (if n < 10 ^ 60 - 1 then n else 10 ^ 60 - 1), tickD y (if f + t * p < 10 ^ 60 - 1 then f + t * p else 10 ^ 60 - 1), tickD x (if (f + t * p) / 2 < 10 ^ 60 - 1 then (f + t * p) / 2 else 10 ^ 60 - 1),
    tickD x (if (if f - 1 > 0 then f - 1 else 0) < 10 ^ 60 - 1 then (if f - 1 > 0 then f - 1 else 0) else 10 ^ 60 - 1), tickD y (if g < 10 ^ 60 - 1 then g else 10 ^ 60 - 1)], d4, ?_, q4, ?_⟩
  · simp [P_L_tickets, g_L_tickets, runP, runM, startE, startM, sSeq, seqK, sNil, sRet, sRetN, sExpr, sIf, sSet, setK, sAsg, sPar, parK, rsl, sAug, sFor, cTest, tAndF, tOrF, tNotF, tYesF, tChainF, chK, cAndV, cOrV, cNotV, cIfE, cBin, cUn, fin1, fin2, peek, cName, cC, cTup, cLst, aNil, aCons, cUse, use, bd, RV.out, RV.cell, cCall, callK, cCallM, callMK, cCallT, cCallK, pick, ownAt, own0, not0, retOf, gNm, gTp, gsCons, gsNil, gIx, iRg1, iRg2, iIt, iter1, cSl, oNone, oSome, fSl, fII, fII0, fAdd, fIAdd, fIx, fLen, fNeg, fAbs, fInt, fIsN, isNon, L2.atI, L2.ixN, sRaise, sTryAs, leaveX, noX, outX, cIsE, cDct0, fAll, fAny, blsOf, blOf, fList, fTuple, cMeth, fAppend, cBot, sBot, e1, e2, e3, e4, m1, m2, hp, hd, cLc, lcK, compG, wipeE, unwipe, ct_L_tickets_1, cc_L_tickets_1, ce_L_tickets_1, szOk]
  · intro e he
    simp only [List.mem_cons, List.not_mem_nil, or_false] at he
    rcases he with rfl | rfl | rfl | rfl | rfl | rfl | rfl
    · exact tick_min _ (by split <;> omega)
    · exact tick_min _ (by split <;> omega)
    · exact tick_min _ n0
    · exact tick_min _ (by omega)
    · exact tick_min _ (by omega)
    · exact tick_min _ (by split <;> omega)
    · exact tick_min _ g0
/-! the law -/
theorem cards {ns : List Int} {k : Int} {d dd : D} {x y : Str} {f p g q : Int} (a : Ln x f p) (b : Ln y g q) (L : List D) (hL : ∀ e ∈ L, Tick e) (c6 c7 : Option Cell) :
    ∃ c, forG ft_law_1 fb_law_1 L [some (.dat (.scr ns)), some (.dat (.int k)), some (.own d), some (.dat (lineD x f p)), some (.dat (lineD y g q)), some (.dat dd), c6, c7] = some (.ok .next [some (.dat (.scr ns)), some (.dat (.int k)), some (.own d), some (.dat (lineD x f p)), some (.dat (lineD y g q)), some (.dat dd), c, c7]) := by
  obtain ⟨e', h5, c, rfl⟩ := for_run (g := ft_law_1) (b := fb_law_1) (fun _ env => ∃ c, env = [some (.dat (.scr ns)), some (.dat (.int k)), some (.own d), some (.dat (lineD x f p)), some (.dat (lineD y g q)), some (.dat dd), c, c7]) L 0 [some (.dat (.scr ns)), some (.dat (.int k)), some (.own d), some (.dat (lineD x f p)), some (.dat (lineD y g q)), some (.dat dd), c6, c7] (fun i e env he hI => by
    obtain ⟨c, rfl⟩ := hI
    obtain ⟨z, n, rfl, n0, n1⟩ := hL e (List.mem_of_getElem? he)
    have b1 := back (y := z) (n := n) a n0 n1
    have b2 := back (y := z) (n := n) b n0 n1
    exact ⟨_, _, by simp [ft_law_1, gNm]; rfl, by simp [fb_law_1, runP, runM, startE, startM, sSeq, seqK, sNil, sRet, sRetN, sExpr, sIf, sSet, setK, sAsg, sPar, parK, rsl, sAug, sFor, cTest, tAndF, tOrF, tNotF, tYesF, tChainF, chK, cAndV, cOrV, cNotV, cIfE, cBin, cUn, fin1, fin2, peek, cName, cC, cTup, cLst, aNil, aCons, cUse, use, bd, RV.out, RV.cell, cCall, callK, cCallM, callMK, cCallT, cCallK, pick, ownAt, own0, not0, retOf, gNm, gTp, gsCons, gsNil, gIx, iRg1, iRg2, iIt, iter1, cSl, oNone, oSome, fSl, fII, fII0, fAdd, fIAdd, fIx, fLen, fNeg, fAbs, fInt, fIsN, isNon, L2.atI, L2.ixN, sRaise, sTryAs, leaveX, noX, outX, cIsE, cDct0, fAll, fAny, blsOf, blOf, fList, fTuple, cMeth, fAppend, cBot, sBot, b1, b2]; rfl, _, rfl⟩) ⟨_, rfl⟩
  exact ⟨c, h5⟩
def Spin (d : D) : Prop := ∃ t : Int, d = .int t ∧ 0 ≤ t ∧ t < 10 ^ 60
theorem spins {ns : List Int} {k : Int} {d : D} {x y : Str} {f p g q : Int} (a : Ln x f p) (b : Ln y g q) (hd : Pot d) (L : List D) (hL : ∀ e ∈ L, Spin e) (c5 c6 c7 : Option Cell) :
    ∃ d' c c', forG ft_law_2 fb_law_2 L [some (.dat (.scr ns)), some (.dat (.int k)), some (.own d), some (.dat (lineD x f p)), some (.dat (lineD y g q)), c5, c6, c7] = some (.ok .next [some (.dat (.scr ns)), some (.dat (.int k)), some (.own d'), some (.dat (lineD x f p)), some (.dat (lineD y g q)), c, c', c7]) ∧ Pot d' := by
  obtain ⟨e', h5, d', c, c', rfl, pd⟩ := for_run (g := ft_law_2) (b := fb_law_2) (fun _ env => ∃ d' c c', env = [some (.dat (.scr ns)), some (.dat (.int k)), some (.own d'), some (.dat (lineD x f p)), some (.dat (lineD y g q)), c, c', c7] ∧ Pot d') L 0 [some (.dat (.scr ns)), some (.dat (.int k)), some (.own d), some (.dat (lineD x f p)), some (.dat (lineD y g q)), c5, c6, c7] (fun i e env he hI => by
    obtain ⟨d1, c, c', rfl, pd⟩ := hI
    obtain ⟨t, rfl, t0, t1⟩ := hL e (List.mem_of_getElem? he)
    have b1 := told a t0 t1
    have b2 := told b t0 t1
    obtain ⟨T, d2, et, p2, hT⟩ := tickets pd a b t0 t1
    obtain ⟨c2, ec⟩ := cards (ns := ns) (k := k) (d := d2) (dd := .int t) a b T hT c' c7
    exact ⟨_, _, by simp [ft_law_2, gNm]; rfl, by simp [fb_law_2, runP, runM, startE, startM, sSeq, seqK, sNil, sRet, sRetN, sExpr, sIf, sSet, setK, sAsg, sPar, parK, rsl, sAug, sFor, cTest, tAndF, tOrF, tNotF, tYesF, tChainF, chK, cAndV, cOrV, cNotV, cIfE, cBin, cUn, fin1, fin2, peek, cName, cC, cTup, cLst, aNil, aCons, cUse, use, bd, RV.out, RV.cell, cCall, callK, cCallM, callMK, cCallT, cCallK, pick, ownAt, own0, not0, retOf, gNm, gTp, gsCons, gsNil, gIx, iRg1, iRg2, iIt, iter1, cSl, oNone, oSome, fSl, fII, fII0, fAdd, fIAdd, fIx, fLen, fNeg, fAbs, fInt, fIsN, isNon, L2.atI, L2.ixN, sRaise, sTryAs, leaveX, noX, outX, cIsE, cDct0, fAll, fAny, blsOf, blOf, fList, fTuple, cMeth, fAppend, cBot, sBot, b1, b2, et, ec]; exact ⟨rfl, rfl⟩, _, _, _, rfl, p2⟩) ⟨_, _, _, rfl, hd⟩
  exact ⟨d', c, c', h5, pd⟩
theorem odd_neg {i : Int} (h : i < 0) : Odd (.int i) := by
  unfold Odd
  rw [isWhole, decide_eq_false (by omega)]
theorem odd_non : Odd .non := by simp [Odd, P_is_whole, g_is_whole, runP, runM, startE, startM, sSeq, seqK, sNil, sRet, sRetN, sExpr, sIf, sSet, setK, sAsg, sPar, parK, rsl, sAug, sFor, cTest, tAndF, tOrF, tNotF, tYesF, tChainF, chK, cAndV, cOrV, cNotV, cIfE, cBin, cUn, fin1, fin2, peek, cName, cC, cTup, cLst, aNil, aCons, cUse, use, bd, RV.out, RV.cell, cCall, callK, cCallM, callMK, cCallT, cCallK, pick, ownAt, own0, not0, retOf, gNm, gTp, gsCons, gsNil, gIx, iRg1, iRg2, iIt, iter1, cSl, oNone, oSome, fSl, fII, fII0, fAdd, fIAdd, fIx, fLen, fNeg, fAbs, fInt, fIsN, isNon, L2.atI, L2.ixN, sRaise, sTryAs, leaveX, noX, outX, cIsE, cDct0, fAll, fAny, blsOf, blOf, fList, fTuple, cMeth, fAppend, cBot, sBot, fIsi, tyName, k_ni]
theorem odd_bl (b : Bool) : Odd (.bl b) := by simp [Odd, P_is_whole, g_is_whole, runP, runM, startE, startM, sSeq, seqK, sNil, sRet, sRetN, sExpr, sIf, sSet, setK, sAsg, sPar, parK, rsl, sAug, sFor, cTest, tAndF, tOrF, tNotF, tYesF, tChainF, chK, cAndV, cOrV, cNotV, cIfE, cBin, cUn, fin1, fin2, peek, cName, cC, cTup, cLst, aNil, aCons, cUse, use, bd, RV.out, RV.cell, cCall, callK, cCallM, callMK, cCallT, cCallK, pick, ownAt, own0, not0, retOf, gNm, gTp, gsCons, gsNil, gIx, iRg1, iRg2, iIt, iter1, cSl, oNone, oSome, fSl, fII, fII0, fAdd, fIAdd, fIx, fLen, fNeg, fAbs, fInt, fIsN, isNon, L2.atI, L2.ixN, sRaise, sTryAs, leaveX, noX, outX, cIsE, cDct0, fAll, fAny, blsOf, blOf, fList, fTuple, cMeth, fAppend, cBot, sBot, fIsi, tyName, k_bi, k_bb]
theorem odd_str (x : Str) : Odd (.str x) := by simp [Odd, P_is_whole, g_is_whole, runP, runM, startE, startM, sSeq, seqK, sNil, sRet, sRetN, sExpr, sIf, sSet, setK, sAsg, sPar, parK, rsl, sAug, sFor, cTest, tAndF, tOrF, tNotF, tYesF, tChainF, chK, cAndV, cOrV, cNotV, cIfE, cBin, cUn, fin1, fin2, peek, cName, cC, cTup, cLst, aNil, aCons, cUse, use, bd, RV.out, RV.cell, cCall, callK, cCallM, callMK, cCallT, cCallK, pick, ownAt, own0, not0, retOf, gNm, gTp, gsCons, gsNil, gIx, iRg1, iRg2, iIt, iter1, cSl, oNone, oSome, fSl, fII, fII0, fAdd, fIAdd, fIx, fLen, fNeg, fAbs, fInt, fIsN, isNon, L2.atI, L2.ixN, sRaise, sTryAs, leaveX, noX, outX, cIsE, cDct0, fAll, fAny, blsOf, blOf, fList, fTuple, cMeth, fAppend, cBot, sBot, fIsi, tyName, k_si]
theorem odd_tup (l : List D) : Odd (.tup l) := by simp [Odd, P_is_whole, g_is_whole, runP, runM, startE, startM, sSeq, seqK, sNil, sRet, sRetN, sExpr, sIf, sSet, setK, sAsg, sPar, parK, rsl, sAug, sFor, cTest, tAndF, tOrF, tNotF, tYesF, tChainF, chK, cAndV, cOrV, cNotV, cIfE, cBin, cUn, fin1, fin2, peek, cName, cC, cTup, cLst, aNil, aCons, cUse, use, bd, RV.out, RV.cell, cCall, callK, cCallM, callMK, cCallT, cCallK, pick, ownAt, own0, not0, retOf, gNm, gTp, gsCons, gsNil, gIx, iRg1, iRg2, iIt, iter1, cSl, oNone, oSome, fSl, fII, fII0, fAdd, fIAdd, fIx, fLen, fNeg, fAbs, fInt, fIsN, isNon, L2.atI, L2.ixN, sRaise, sTryAs, leaveX, noX, outX, cIsE, cDct0, fAll, fAny, blsOf, blOf, fList, fTuple, cMeth, fAppend, cBot, sBot, fIsi, tyName, k_ti]
theorem odd_lst (l : List D) : Odd (.lst l) := by simp [Odd, P_is_whole, g_is_whole, runP, runM, startE, startM, sSeq, seqK, sNil, sRet, sRetN, sExpr, sIf, sSet, setK, sAsg, sPar, parK, rsl, sAug, sFor, cTest, tAndF, tOrF, tNotF, tYesF, tChainF, chK, cAndV, cOrV, cNotV, cIfE, cBin, cUn, fin1, fin2, peek, cName, cC, cTup, cLst, aNil, aCons, cUse, use, bd, RV.out, RV.cell, cCall, callK, cCallM, callMK, cCallT, cCallK, pick, ownAt, own0, not0, retOf, gNm, gTp, gsCons, gsNil, gIx, iRg1, iRg2, iIt, iter1, cSl, oNone, oSome, fSl, fII, fII0, fAdd, fIAdd, fIx, fLen, fNeg, fAbs, fInt, fIsN, isNon, L2.atI, L2.ixN, sRaise, sTryAs, leaveX, noX, outX, cIsE, cDct0, fAll, fAny, blsOf, blOf, fList, fTuple, cMeth, fAppend, cBot, sBot, fIsi, tyName, k_li]
theorem odd_dct (ks : List L2.Key) (l : List D) : Odd (.dct ks l) := by simp [Odd, P_is_whole, g_is_whole, runP, runM, startE, startM, sSeq, seqK, sNil, sRet, sRetN, sExpr, sIf, sSet, setK, sAsg, sPar, parK, rsl, sAug, sFor, cTest, tAndF, tOrF, tNotF, tYesF, tChainF, chK, cAndV, cOrV, cNotV, cIfE, cBin, cUn, fin1, fin2, peek, cName, cC, cTup, cLst, aNil, aCons, cUse, use, bd, RV.out, RV.cell, cCall, callK, cCallM, callMK, cCallT, cCallK, pick, ownAt, own0, not0, retOf, gNm, gTp, gsCons, gsNil, gIx, iRg1, iRg2, iIt, iter1, cSl, oNone, oSome, fSl, fII, fII0, fAdd, fIAdd, fIx, fLen, fNeg, fAbs, fInt, fIsN, isNon, L2.atI, L2.ixN, sRaise, sTryAs, leaveX, noX, outX, cIsE, cDct0, fAll, fAny, blsOf, blOf, fList, fTuple, cMeth, fAppend, cBot, sBot, fIsi, tyName, k_di]
theorem odds {ns : List Int} {k : Int} {d : D} {x y : Str} {f p g q : Int} (L : List D) (hL : ∀ e ∈ L, Odd e) (hn : L.length ≤ 100) (c5 c6 : Option Cell) (c7 : Option Cell) :
    lcK [5] ct_law_1 cc_law_1 ce_law_1 L [some (.dat (.scr ns)), some (.dat (.int k)), some (.own d), some (.dat (lineD x f p)), some (.dat (lineD y g q)), c5, c6, c7] = some (.ok (.fresh (.lst (L.map fun _ => .bl true))) [some (.dat (.scr ns)), some (.dat (.int k)), some (.own d), some (.dat (lineD x f p)), some (.dat (lineD y g q)), c5, c6, c7]) := by
  have c := comp_run (vs := [5]) (g := ct_law_1) (t := cc_law_1) (f := ce_law_1) (E := [some (.dat (.scr ns)), some (.dat (.int k)), some (.own d), some (.dat (lineD x f p)), some (.dat (lineD y g q)), none, c6, c7])
    (fun e => [some (.dat (.scr ns)), some (.dat (.int k)), some (.own d), some (.dat (lineD x f p)), some (.dat (lineD y g q)), some (.dat e), c6, c7]) (fun _ => true) (fun _ => .bl true) L [] (fun e he => by
      have r := refused (x := x) (f := f) (p := p) (hL e he)
      refine ⟨by simp [ct_law_1, gNm], rfl, by simp [cc_law_1, tYesF], fun _ => by simp [ce_law_1, runP, runM, startE, startM, sSeq, seqK, sNil, sRet, sRetN, sExpr, sIf, sSet, setK, sAsg, sPar, parK, rsl, sAug, sFor, cTest, tAndF, tOrF, tNotF, tYesF, tChainF, chK, cAndV, cOrV, cNotV, cIfE, cBin, cUn, fin1, fin2, peek, cName, cC, cTup, cLst, aNil, aCons, cUse, use, bd, RV.out, RV.cell, cCall, callK, cCallM, callMK, cCallT, cCallK, pick, ownAt, own0, not0, retOf, gNm, gTp, gsCons, gsNil, gIx, iRg1, iRg2, iIt, iter1, cSl, oNone, oSome, fSl, fII, fII0, fAdd, fIAdd, fIx, fLen, fNeg, fAbs, fInt, fIsN, isNon, L2.atI, L2.ixN, sRaise, sTryAs, leaveX, noX, outX, cIsE, cDct0, fAll, fAny, blsOf, blOf, fList, fTuple, cMeth, fAppend, cBot, sBot, r], rfl⟩) (by simp; omega)
  unfold lcK
  rw [show wipeE [some (Cell.dat (.scr ns)), some (.dat (.int k)), some (.own d), some (.dat (lineD x f p)), some (.dat (lineD y g q)), c5, c6, c7] [5] = [some (.dat (.scr ns)), some (.dat (.int k)), some (.own d), some (.dat (lineD x f p)), some (.dat (lineD y g q)), none, c6, c7] from rfl, c]
  rw [List.filter_eq_self.mpr fun _ _ => rfl]
  simp [unwipe]
theorem allT : ∀ L : List D, blsOf (L.map fun _ => D.bl true) = some (L.map fun _ => true)
  | [] => rfl
  | _ :: L => by simp [blsOf, blOf, allT L]
theorem turn {ns : List Int} {k : Nat} (hk : k < 63) (c2 c3 c4 c5 c6 c7 : Option Cell) : ∃ l : List (Option Cell), fb_law_3 [some (.dat (.scr ns)), some (.dat (.int k)), c2, c3, c4, c5, c6, c7] = some (.ok .next ([some (.dat (.scr ns)), some (.dat (.int k))] ++ l)) ∧ l.length = 6 := by
  obtain ⟨d, ed, pd⟩ := pot (ns := ns) hk
  obtain ⟨x, f, p, d1, e1, a, p1⟩ := line pd
  obtain ⟨y, g, q, d2, e2, b, p2⟩ := line p1
  obtain ⟨r, d3, e3, r0, r1, p3⟩ := digit (m := 9) p2 (by omega) (by decide +kernel)
  obtain ⟨n, d4, e4, n0, n1, p4⟩ := number p3
  obtain ⟨w, d5, e5, w0, w1, p5⟩ := far p4
  obtain ⟨d6, s5, s6, es, p6⟩ := spins (ns := ns) (k := k) a b p5 [.int 0, .int r, .int n, .int w] (by
    intro e he
    simp only [List.mem_cons, List.not_mem_nil, or_false] at he
    rcases he with rfl | rfl | rfl | rfl
    · exact ⟨0, rfl, by omega, by omega⟩
    · exact ⟨r, rfl, by omega, by omega⟩
    · exact ⟨n, rfl, n0, n1⟩
    · exact ⟨w, rfl, w0, w1⟩) c5 c6 c7
  obtain ⟨u, d7, e7, u0, u1, p7⟩ := number p6
  have hu : 0 ≤ u / 10 := Int.ediv_nonneg u0 (by omega)
  have hdv : divOk u 10 = true := divOk_of (by omega) (by decide +kernel)
  have ho := odds (ns := ns) (k := k) (d := d7) (x := x) (y := y) (f := f) (p := p) (g := g) (q := q) [.int (-1), .int (0 - 1 - u / 10), .non, .bl true, .bl false, .str "0", .tup [.int 0], .lst [.int 1], .dct [] [], .tup []] (by
    intro e he
    simp only [List.mem_cons, List.not_mem_nil, or_false] at he
    rcases he with rfl | rfl | rfl | rfl | rfl | rfl | rfl | rfl | rfl | rfl
    · exact odd_neg (by omega)
    · exact odd_neg (by omega)
    · exact odd_non
    · exact odd_bl _
    · exact odd_bl _
    · exact odd_str _
    · exact odd_tup _
    · exact odd_lst _
    · exact odd_dct _ _
    · exact odd_tup _) (by simp) s5 s6 (some (.dat (.lst [.int (-1), .int (0 - 1 - u / 10), .non, .bl true, .bl false, .str "0", .tup [.int 0], .lst [.int 1], .dct [] [], .tup []])))
  have t1 := told a (t := 1) (by omega) (by omega)
  refine ⟨[some (.own d7), some (.dat (lineD x f p)), some (.dat (lineD y g q)), s5, s6, some (.dat (.lst [.int (-1), .int (0 - 1 - u / 10), .non, .bl true, .bl false, .str "0", .tup [.int 0], .lst [.int 1], .dct [] [], .tup []]))], ?_, rfl⟩
  simp at ho
  simp [fb_law_3, runP, runM, startE, startM, sSeq, seqK, sNil, sRet, sRetN, sExpr, sIf, sSet, setK, sAsg, sPar, parK, rsl, sAug, sFor, cTest, tAndF, tOrF, tNotF, tYesF, tChainF, chK, cAndV, cOrV, cNotV, cIfE, cBin, cUn, fin1, fin2, peek, cName, cC, cTup, cLst, aNil, aCons, cUse, use, bd, RV.out, RV.cell, cCall, callK, cCallM, callMK, cCallT, cCallK, pick, ownAt, own0, not0, retOf, gNm, gTp, gsCons, gsNil, gIx, iRg1, iRg2, iIt, iter1, cSl, oNone, oSome, fSl, fII, fII0, fAdd, fIAdd, fIx, fLen, fNeg, fAbs, fInt, fIsN, isNon, L2.atI, L2.ixN, sRaise, sTryAs, leaveX, noX, outX, cIsE, cDct0, fAll, fAny, blsOf, blOf, fList, fTuple, cMeth, fAppend, cBot, sBot, cLc, ed, e1, e2, e3, e4, e5, es, e7, hdv, ho, t1, szOk]
theorem law_true : ∀ ns : List Int, ns.length ≤ 63 → (∀ z ∈ ns, Builtin.Int.intBits z ≤ 1048576) → P_law [.scr ns] = some (.ok (.dat (.bl true))) := by
  intro ns hl _
  have loop : ∀ m : Nat, m ≤ 10 → _ := fun m hm => for_run (g := ft_law_3) (b := fb_law_3) (fun _ env => ∃ l : List (Option Cell), env = some (.dat (.scr ns)) :: l ∧ l.length = 7) (Tk.intsFrom 0 m) 0 [some (.dat (.scr ns)), none, none, none, none, none, none, none] (fun i dd env hd hI => by
    obtain ⟨l, rfl, hl⟩ := hI
    match l, hl with
    | [c1, c2, c3, c4, c5, c6, c7], _ =>
    have hi : i < m := by
      have := (List.getElem?_eq_some_iff.mp hd).1
      simpa [Tk.intsFrom] using this
    have hdd : dd = .int i := by
      unfold Tk.intsFrom at hd
      rw [List.getElem?_map, List.getElem?_range hi] at hd
      simp at hd
      exact hd.symm
    subst hdd
    obtain ⟨l2, he, hl2⟩ := turn (ns := ns) (k := i) (by omega) c2 c3 c4 c5 c6 c7
    exact ⟨_, _, by simp [ft_law_3, gNm], he, _, rfl, by simp [hl2]⟩) ⟨_, rfl, rfl⟩
  have hm : ∃ m : Nat, m ≤ 10 ∧ (if (if 10 < (ns.length : Int) then 10 else (ns.length : Int)) > 1 then (if 10 < (ns.length : Int) then 10 else (ns.length : Int)) else 1) = (m : Int) := by
    refine ⟨(if (if 10 < (ns.length : Int) then 10 else (ns.length : Int)) > 1 then (if 10 < (ns.length : Int) then 10 else (ns.length : Int)) else 1).toNat, ?_, ?_⟩
    · split <;> split <;> omega
    · split <;> split <;> omega
  obtain ⟨m, m12, em⟩ := hm
  obtain ⟨e', h5, l, rfl, hl2⟩ := loop m m12
  have hs62 : small62 (m : Int) = true := by
    unfold small62
    rw [decide_eq_true (by omega), decide_eq_true (by omega)]
    rfl
  have hz : szOk ns.length = true := decide_eq_true (by omega)
  simp [P_law, g_law, runP, runM, startE, startM, sSeq, seqK, sNil, sRet, sRetN, sExpr, sIf, sSet, setK, sAsg, sPar, parK, rsl, sAug, sFor, cTest, tAndF, tOrF, tNotF, tYesF, tChainF, chK, cAndV, cOrV, cNotV, cIfE, cBin, cUn, fin1, fin2, peek, cName, cC, cTup, cLst, aNil, aCons, cUse, use, bd, RV.out, RV.cell, cCall, callK, cCallM, callMK, cCallT, cCallK, pick, ownAt, own0, not0, retOf, gNm, gTp, gsCons, gsNil, gIx, iRg1, iRg2, iIt, iter1, cSl, oNone, oSome, fSl, fII, fII0, fAdd, fIAdd, fIx, fLen, fNeg, fAbs, fInt, fIsN, isNon, L2.atI, L2.ixN, sRaise, sTryAs, leaveX, noX, outX, cIsE, cDct0, fAll, fAny, blsOf, blOf, fList, fTuple, cMeth, fAppend, cBot, sBot, hz, em, hs62, h5]
end K12
namespace K12
open PySem PySem.Spec PyProof.Rows L2 Tk
theorem all_mk {P : Program} {w : World} {K : PySem.W.Frag} {h : Heap} {mg : Str → Option Value} {fa : Addr} (X : K.In h) (G : h.Ns mainGlobals mg) (hfa : mg "law" = some (.ref fa))
    {od_L_pot an_L_pot : Option Addr} {sl_L_pot : Array (Option Value)} {oc_L_pot kV_L_pot dc_L_pot pm_L_pot cd_L_pot ct_L_pot : Value} {f_L_pot : Addr}
    (a_L_pot : PySem.W.nsIn K mainGlobals "_law_pot" = some (some (.ref f_L_pot))) (l_L_pot : K.lookup f_L_pot = some ⟨oc_L_pot, od_L_pot, .func (PySem.W.fnOf "_law_pot" "_law_pot" (defArgs s_L_pot) (defBody s_L_pot) (defScope s_L_pot) .none kV_L_pot dc_L_pot pm_L_pot an_L_pot cd_L_pot ct_L_pot), sl_L_pot⟩) (c_L_pot : PySem.W.codeIn K cd_L_pot "_law_pot" = true) (k_L_pot : PySem.W.keepIn K (.ref f_L_pot) = true)
    {od_L_digit an_L_digit : Option Addr} {sl_L_digit : Array (Option Value)} {oc_L_digit kV_L_digit dc_L_digit pm_L_digit cd_L_digit ct_L_digit : Value} {f_L_digit : Addr}
    (a_L_digit : PySem.W.nsIn K mainGlobals "_law_digit" = some (some (.ref f_L_digit))) (l_L_digit : K.lookup f_L_digit = some ⟨oc_L_digit, od_L_digit, .func (PySem.W.fnOf "_law_digit" "_law_digit" (defArgs s_L_digit) (defBody s_L_digit) (defScope s_L_digit) .none kV_L_digit dc_L_digit pm_L_digit an_L_digit cd_L_digit ct_L_digit), sl_L_digit⟩) (c_L_digit : PySem.W.codeIn K cd_L_digit "_law_digit" = true) (k_L_digit : PySem.W.keepIn K (.ref f_L_digit) = true)
    {od_L_letter an_L_letter : Option Addr} {sl_L_letter : Array (Option Value)} {oc_L_letter kV_L_letter dc_L_letter pm_L_letter cd_L_letter ct_L_letter : Value} {f_L_letter : Addr}
    (a_L_letter : PySem.W.nsIn K mainGlobals "_law_letter" = some (some (.ref f_L_letter))) (l_L_letter : K.lookup f_L_letter = some ⟨oc_L_letter, od_L_letter, .func (PySem.W.fnOf "_law_letter" "_law_letter" (defArgs s_L_letter) (defBody s_L_letter) (defScope s_L_letter) .none kV_L_letter dc_L_letter pm_L_letter an_L_letter cd_L_letter ct_L_letter), sl_L_letter⟩) (c_L_letter : PySem.W.codeIn K cd_L_letter "_law_letter" = true) (k_L_letter : PySem.W.keepIn K (.ref f_L_letter) = true)
    {od_L_far an_L_far : Option Addr} {sl_L_far : Array (Option Value)} {oc_L_far kV_L_far dc_L_far pm_L_far cd_L_far ct_L_far : Value} {f_L_far : Addr}
    (a_L_far : PySem.W.nsIn K mainGlobals "_law_far" = some (some (.ref f_L_far))) (l_L_far : K.lookup f_L_far = some ⟨oc_L_far, od_L_far, .func (PySem.W.fnOf "_law_far" "_law_far" (defArgs s_L_far) (defBody s_L_far) (defScope s_L_far) .none kV_L_far dc_L_far pm_L_far an_L_far cd_L_far ct_L_far), sl_L_far⟩) (c_L_far : PySem.W.codeIn K cd_L_far "_law_far" = true) (k_L_far : PySem.W.keepIn K (.ref f_L_far) = true)
    {od_L_number an_L_number : Option Addr} {sl_L_number : Array (Option Value)} {oc_L_number kV_L_number dc_L_number pm_L_number cd_L_number ct_L_number : Value} {f_L_number : Addr}
    (a_L_number : PySem.W.nsIn K mainGlobals "_law_number" = some (some (.ref f_L_number))) (l_L_number : K.lookup f_L_number = some ⟨oc_L_number, od_L_number, .func (PySem.W.fnOf "_law_number" "_law_number" (defArgs s_L_number) (defBody s_L_number) (defScope s_L_number) .none kV_L_number dc_L_number pm_L_number an_L_number cd_L_number ct_L_number), sl_L_number⟩) (c_L_number : PySem.W.codeIn K cd_L_number "_law_number" = true) (k_L_number : PySem.W.keepIn K (.ref f_L_number) = true)
    {od_L_line an_L_line : Option Addr} {sl_L_line : Array (Option Value)} {oc_L_line kV_L_line dc_L_line pm_L_line cd_L_line ct_L_line : Value} {f_L_line : Addr}
    (a_L_line : PySem.W.nsIn K mainGlobals "_law_line" = some (some (.ref f_L_line))) (l_L_line : K.lookup f_L_line = some ⟨oc_L_line, od_L_line, .func (PySem.W.fnOf "_law_line" "_law_line" (defArgs s_L_line) (defBody s_L_line) (defScope s_L_line) .none kV_L_line dc_L_line pm_L_line an_L_line cd_L_line ct_L_line), sl_L_line⟩) (c_L_line : PySem.W.codeIn K cd_L_line "_law_line" = true) (k_L_line : PySem.W.keepIn K (.ref f_L_line) = true)
    {od_L_tickets an_L_tickets : Option Addr} {sl_L_tickets : Array (Option Value)} {oc_L_tickets kV_L_tickets dc_L_tickets pm_L_tickets cd_L_tickets ct_L_tickets : Value} {f_L_tickets : Addr}
    (a_L_tickets : PySem.W.nsIn K mainGlobals "_law_tickets" = some (some (.ref f_L_tickets))) (l_L_tickets : K.lookup f_L_tickets = some ⟨oc_L_tickets, od_L_tickets, .func (PySem.W.fnOf "_law_tickets" "_law_tickets" (defArgs s_L_tickets) (defBody s_L_tickets) (defScope s_L_tickets) .none kV_L_tickets dc_L_tickets pm_L_tickets an_L_tickets cd_L_tickets ct_L_tickets), sl_L_tickets⟩) (c_L_tickets : PySem.W.codeIn K cd_L_tickets "_law_tickets" = true) (k_L_tickets : PySem.W.keepIn K (.ref f_L_tickets) = true)
    {od_is_whole an_is_whole : Option Addr} {sl_is_whole : Array (Option Value)} {oc_is_whole kV_is_whole dc_is_whole pm_is_whole cd_is_whole ct_is_whole : Value} {f_is_whole : Addr}
    (a_is_whole : PySem.W.nsIn K mainGlobals "is_whole" = some (some (.ref f_is_whole))) (l_is_whole : K.lookup f_is_whole = some ⟨oc_is_whole, od_is_whole, .func (PySem.W.fnOf "is_whole" "is_whole" (defArgs s_is_whole) (defBody s_is_whole) (defScope s_is_whole) .none kV_is_whole dc_is_whole pm_is_whole an_is_whole cd_is_whole ct_is_whole), sl_is_whole⟩) (c_is_whole : PySem.W.codeIn K cd_is_whole "is_whole" = true) (k_is_whole : PySem.W.keepIn K (.ref f_is_whole) = true)
    {od_told_at an_told_at : Option Addr} {sl_told_at : Array (Option Value)} {oc_told_at kV_told_at dc_told_at pm_told_at cd_told_at ct_told_at : Value} {f_told_at : Addr}
    (a_told_at : PySem.W.nsIn K mainGlobals "told_at" = some (some (.ref f_told_at))) (l_told_at : K.lookup f_told_at = some ⟨oc_told_at, od_told_at, .func (PySem.W.fnOf "told_at" "told_at" (defArgs s_told_at) (defBody s_told_at) (defScope s_told_at) .none kV_told_at dc_told_at pm_told_at an_told_at cd_told_at ct_told_at), sl_told_at⟩) (c_told_at : PySem.W.codeIn K cd_told_at "told_at" = true) (k_told_at : PySem.W.keepIn K (.ref f_told_at) = true)
    {od_turn_of an_turn_of : Option Addr} {sl_turn_of : Array (Option Value)} {oc_turn_of kV_turn_of dc_turn_of pm_turn_of cd_turn_of ct_turn_of : Value} {f_turn_of : Addr}
    (a_turn_of : PySem.W.nsIn K mainGlobals "turn_of" = some (some (.ref f_turn_of))) (l_turn_of : K.lookup f_turn_of = some ⟨oc_turn_of, od_turn_of, .func (PySem.W.fnOf "turn_of" "turn_of" (defArgs s_turn_of) (defBody s_turn_of) (defScope s_turn_of) .none kV_turn_of dc_turn_of pm_turn_of an_turn_of cd_turn_of ct_turn_of), sl_turn_of⟩) (c_turn_of : PySem.W.codeIn K cd_turn_of "turn_of" = true) (k_turn_of : PySem.W.keepIn K (.ref f_turn_of) = true)
    {od_L_told an_L_told : Option Addr} {sl_L_told : Array (Option Value)} {oc_L_told kV_L_told dc_L_told pm_L_told cd_L_told ct_L_told : Value} {f_L_told : Addr}
    (a_L_told : PySem.W.nsIn K mainGlobals "_law_told" = some (some (.ref f_L_told))) (l_L_told : K.lookup f_L_told = some ⟨oc_L_told, od_L_told, .func (PySem.W.fnOf "_law_told" "_law_told" (defArgs s_L_told) (defBody s_L_told) (defScope s_L_told) .none kV_L_told dc_L_told pm_L_told an_L_told cd_L_told ct_L_told), sl_L_told⟩) (c_L_told : PySem.W.codeIn K cd_L_told "_law_told" = true) (k_L_told : PySem.W.keepIn K (.ref f_L_told) = true)
    {od_L_back an_L_back : Option Addr} {sl_L_back : Array (Option Value)} {oc_L_back kV_L_back dc_L_back pm_L_back cd_L_back ct_L_back : Value} {f_L_back : Addr}
    (a_L_back : PySem.W.nsIn K mainGlobals "_law_back" = some (some (.ref f_L_back))) (l_L_back : K.lookup f_L_back = some ⟨oc_L_back, od_L_back, .func (PySem.W.fnOf "_law_back" "_law_back" (defArgs s_L_back) (defBody s_L_back) (defScope s_L_back) .none kV_L_back dc_L_back pm_L_back an_L_back cd_L_back ct_L_back), sl_L_back⟩) (c_L_back : PySem.W.codeIn K cd_L_back "_law_back" = true) (k_L_back : PySem.W.keepIn K (.ref f_L_back) = true)
    {od_L_refused an_L_refused : Option Addr} {sl_L_refused : Array (Option Value)} {oc_L_refused kV_L_refused dc_L_refused pm_L_refused cd_L_refused ct_L_refused : Value} {f_L_refused : Addr}
    (a_L_refused : PySem.W.nsIn K mainGlobals "_law_refused" = some (some (.ref f_L_refused))) (l_L_refused : K.lookup f_L_refused = some ⟨oc_L_refused, od_L_refused, .func (PySem.W.fnOf "_law_refused" "_law_refused" (defArgs s_L_refused) (defBody s_L_refused) (defScope s_L_refused) .none kV_L_refused dc_L_refused pm_L_refused an_L_refused cd_L_refused ct_L_refused), sl_L_refused⟩) (c_L_refused : PySem.W.codeIn K cd_L_refused "_law_refused" = true) (k_L_refused : PySem.W.keepIn K (.ref f_L_refused) = true)
    {od_law an_law : Option Addr} {sl_law : Array (Option Value)} {oc_law kV_law dc_law pm_law cd_law ct_law : Value} {f_law : Addr}
    (a_law : PySem.W.nsIn K mainGlobals "law" = some (some (.ref f_law))) (l_law : K.lookup f_law = some ⟨oc_law, od_law, .func (PySem.W.fnOf "law" "law" (defArgs s_law) (defBody s_law) (defScope s_law) .none kV_law dc_law pm_law an_law cd_law ct_law), sl_law⟩) (c_law : PySem.W.codeIn K cd_law "law" = true) (k_law : PySem.W.keepIn K (.ref f_law) = true)
    {cl_NoNumber : Addr} (ag_NoNumber : PySem.W.nsIn K mainGlobals "NoNumber" = some (some (.ref cl_NoNumber)))
    {cl_RowsError : Addr} (ag_RowsError : PySem.W.nsIn K mainGlobals "RowsError" = some (some (.ref cl_RowsError)))
    {cl_Absent : Addr} (ag_Absent : PySem.W.nsIn K mainGlobals "Absent" = some (some (.ref cl_Absent)))
    {cl_Barred : Addr} (ag_Barred : PySem.W.nsIn K mainGlobals "Barred" = some (some (.ref cl_Barred)))
    {cl_TooMany : Addr} (ag_TooMany : PySem.W.nsIn K mainGlobals "TooMany" = some (some (.ref cl_TooMany)))
    {cl_NoForm : Addr} (ag_NoForm : PySem.W.nsIn K mainGlobals "NoForm" = some (some (.ref cl_NoForm)))
    {cl_NoLetter : Addr} (ag_NoLetter : PySem.W.nsIn K mainGlobals "NoLetter" = some (some (.ref cl_NoLetter)))
    {cl_NoPlace : Addr} (ag_NoPlace : PySem.W.nsIn K mainGlobals "NoPlace" = some (some (.ref cl_NoPlace)))
    {cl_NoSize : Addr} (ag_NoSize : PySem.W.nsIn K mainGlobals "NoSize" = some (some (.ref cl_NoSize)))
    {cl_NoTicket : Addr} (ag_NoTicket : PySem.W.nsIn K mainGlobals "NoTicket" = some (some (.ref cl_NoTicket)))
    (af_k_NoNumber : PySem.W.keepIn K (.ref cl_NoNumber) = true)
    (af_x_NoNumber : PySem.W.excIn K cl_NoNumber [.type "ValueError", .type "Exception", .type "BaseException", .type "object"] "ValueError.__new__" = true)
    (af_b_NoNumber : PySem.W.subIn K (.ref cl_NoNumber) (.type "BaseException") = some true)
    (af_t_NoNumber : PySem.W.typeIn K (.ref cl_NoNumber) = some (.type "type"))
    (af_eg_NoNumber : PySem.W.findIn K (.ref cl_NoNumber) "__getattribute__" = some (some (.builtin "BaseException.__getattribute__")))
    (af_ek_NoNumber : PySem.W.findIn K (.ref cl_NoNumber) "__getattr__" = some none)
    (af_ed_NoNumber : PySem.W.hasDictIn K cl_NoNumber = true)
    (af_ea_NoNumber : PySem.W.findIn K (.ref cl_NoNumber) "__class__" = some (some (.builtin "object.__class__")))
    (af_em_NoNumber : PySem.W.mroIn K cl_NoNumber (.type "object") = some true)
    (af_b_RowsError : PySem.W.subIn K (.ref cl_RowsError) (.type "BaseException") = some true)
    (af_i_RowsError : PySem.W.isClsIn K cl_RowsError = true)
    (af_t_RowsError : PySem.W.typeIn K (.ref cl_RowsError) = some (.type "type"))
    (af_s_NoNumber_RowsError : PySem.W.subIn K (.ref cl_NoNumber) (.ref cl_RowsError) = some true)
    (af_i_NoNumber : PySem.W.isClsIn K cl_NoNumber = true)
    (af_s_NoNumber_NoNumber : PySem.W.subIn K (.ref cl_NoNumber) (.ref cl_NoNumber) = some true)
    (af_s_NoNumber_ValueError : PySem.W.subIn K (.ref cl_NoNumber) (.type "ValueError") = some true)
    (af_i_Absent : PySem.W.isClsIn K cl_Absent = true)
    (af_t_Absent : PySem.W.typeIn K (.ref cl_Absent) = some (.type "type"))
    (af_s_NoNumber_Absent : PySem.W.subIn K (.ref cl_NoNumber) (.ref cl_Absent) = some false)
    (af_i_Barred : PySem.W.isClsIn K cl_Barred = true)
    (af_t_Barred : PySem.W.typeIn K (.ref cl_Barred) = some (.type "type"))
    (af_s_NoNumber_Barred : PySem.W.subIn K (.ref cl_NoNumber) (.ref cl_Barred) = some false)
    (af_i_TooMany : PySem.W.isClsIn K cl_TooMany = true)
    (af_t_TooMany : PySem.W.typeIn K (.ref cl_TooMany) = some (.type "type"))
    (af_s_NoNumber_TooMany : PySem.W.subIn K (.ref cl_NoNumber) (.ref cl_TooMany) = some false)
    (af_i_NoForm : PySem.W.isClsIn K cl_NoForm = true)
    (af_t_NoForm : PySem.W.typeIn K (.ref cl_NoForm) = some (.type "type"))
    (af_s_NoNumber_NoForm : PySem.W.subIn K (.ref cl_NoNumber) (.ref cl_NoForm) = some false)
    (af_i_NoLetter : PySem.W.isClsIn K cl_NoLetter = true)
    (af_t_NoLetter : PySem.W.typeIn K (.ref cl_NoLetter) = some (.type "type"))
    (af_s_NoNumber_NoLetter : PySem.W.subIn K (.ref cl_NoNumber) (.ref cl_NoLetter) = some false)
    (af_i_NoPlace : PySem.W.isClsIn K cl_NoPlace = true)
    (af_t_NoPlace : PySem.W.typeIn K (.ref cl_NoPlace) = some (.type "type"))
    (af_s_NoNumber_NoPlace : PySem.W.subIn K (.ref cl_NoNumber) (.ref cl_NoPlace) = some false)
    (af_i_NoSize : PySem.W.isClsIn K cl_NoSize = true)
    (af_t_NoSize : PySem.W.typeIn K (.ref cl_NoSize) = some (.type "type"))
    (af_s_NoNumber_NoSize : PySem.W.subIn K (.ref cl_NoNumber) (.ref cl_NoSize) = some false)
    (af_i_NoTicket : PySem.W.isClsIn K cl_NoTicket = true)
    (af_t_NoTicket : PySem.W.typeIn K (.ref cl_NoTicket) = some (.type "type"))
    (af_s_NoNumber_NoTicket : PySem.W.subIn K (.ref cl_NoNumber) (.ref cl_NoTicket) = some false)
    (af_en_ : PySem.W.specialIn K (.builtin "object.__class__") "__get__" = some (some (.builtin "getset_descriptor.__get__")))
    (af_et_ : PySem.W.takesIn K (.builtin "object.__class__") = some true)
    (z_len : PySem.W.nsIn K mainGlobals "len" = some none)
    (z_abs : PySem.W.nsIn K mainGlobals "abs" = some none)
    (z_max : PySem.W.nsIn K mainGlobals "max" = some none)
    (z_divmod : PySem.W.nsIn K mainGlobals "divmod" = some none)
    (z_range : PySem.W.nsIn K mainGlobals "range" = some none)
    (z_min : PySem.W.nsIn K mainGlobals "min" = some none)
    (z_isinstance : PySem.W.nsIn K mainGlobals "isinstance" = some none)
    (z_int : PySem.W.nsIn K mainGlobals "int" = some none)
    (z_bool : PySem.W.nsIn K mainGlobals "bool" = some none)
    (z_tuple : PySem.W.nsIn K mainGlobals "tuple" = some none)
    (z_repr : PySem.W.nsIn K mainGlobals "repr" = some none)
    (z_ValueError : PySem.W.nsIn K mainGlobals "ValueError" = some none)
    (z_all : PySem.W.nsIn K mainGlobals "all" = some none) :
    ∃ fd : FuncData, (∀ (s : Shared) (v : Value), BindsTo s fd ⟨[v], []⟩ [("_law_script", v)]) ∧ ∃ G : Tb, G.K = K ∧ ∀ base : Heap, K.In base → base.Ns mainGlobals mg → FnG P w K mg base 5 fa fd ["_law_script"] (spP G XRx 1 P_law) := by
  have bn : Bn mg := ⟨PySem.W.mg_none_of X G z_len, PySem.W.mg_none_of X G z_abs, PySem.W.mg_none_of X G z_max, PySem.W.mg_none_of X G z_divmod, PySem.W.mg_none_of X G z_range, PySem.W.mg_none_of X G z_min, PySem.W.mg_none_of X G z_isinstance, PySem.W.mg_none_of X G z_int, PySem.W.mg_none_of X G z_bool, PySem.W.mg_none_of X G z_tuple, PySem.W.mg_none_of X G z_repr, PySem.W.mg_none_of X G z_ValueError, PySem.W.mg_none_of X G z_all⟩
  have cn : Cn mg := ⟨trivial⟩
  have ce : Ce K mg ⟨0, cl_NoNumber, cl_RowsError, cl_Absent, cl_Barred, cl_TooMany, cl_NoForm, cl_NoLetter, cl_NoPlace, cl_NoSize, cl_NoTicket⟩ := ⟨trivial, PySem.W.mg_of X G ag_NoNumber, PySem.W.mg_of X G ag_RowsError, PySem.W.mg_of X G ag_Absent, PySem.W.mg_of X G ag_Barred, PySem.W.mg_of X G ag_TooMany, PySem.W.mg_of X G ag_NoForm, PySem.W.mg_of X G ag_NoLetter, PySem.W.mg_of X G ag_NoPlace, PySem.W.mg_of X G ag_NoSize, PySem.W.mg_of X G ag_NoTicket, af_k_NoNumber, af_x_NoNumber, af_b_NoNumber, af_t_NoNumber, af_eg_NoNumber, af_ek_NoNumber, af_ed_NoNumber, af_ea_NoNumber, af_em_NoNumber, (exm_own af_b_RowsError af_i_RowsError af_t_RowsError af_s_NoNumber_RowsError), (kit_own af_i_NoNumber af_t_NoNumber af_s_NoNumber_NoNumber af_s_NoNumber_NoNumber), (kit_blt (by decide +kernel) af_s_NoNumber_ValueError), (kit_own af_i_Absent af_t_Absent af_s_NoNumber_Absent af_s_NoNumber_NoNumber), (kit_own af_i_Barred af_t_Barred af_s_NoNumber_Barred af_s_NoNumber_NoNumber), (kit_own af_i_TooMany af_t_TooMany af_s_NoNumber_TooMany af_s_NoNumber_NoNumber), (kit_own af_i_NoForm af_t_NoForm af_s_NoNumber_NoForm af_s_NoNumber_NoNumber), (kit_own af_i_NoLetter af_t_NoLetter af_s_NoNumber_NoLetter af_s_NoNumber_NoNumber), (kit_own af_i_NoPlace af_t_NoPlace af_s_NoNumber_NoPlace af_s_NoNumber_NoNumber), (kit_own af_i_NoSize af_t_NoSize af_s_NoNumber_NoSize af_s_NoNumber_NoNumber), (kit_own af_i_NoTicket af_t_NoTicket af_s_NoNumber_NoTicket af_s_NoNumber_NoNumber), af_en_, af_et_⟩
  have ebase : mg "law" = some (.ref f_law) := PySem.W.mg_of X G a_law
  have e := hfa.symm.trans ebase
  cases e
  have F_L_pot := fun_mk (st := s_L_pot) l_L_pot c_L_pot k_L_pot
  have b_L_pot := F_L_pot.binds (ps := ["_law_script", "_law_k"]) fun _ _ _ _ _ _ us hl => match us, hl with | [_, _], _ => rfl
  have F_L_digit := fun_mk (st := s_L_digit) l_L_digit c_L_digit k_L_digit
  have b_L_digit := F_L_digit.binds (ps := ["_law_pot_here", "_law_many"]) fun _ _ _ _ _ _ us hl => match us, hl with | [_, _], _ => rfl
  have F_L_letter := fun_mk (st := s_L_letter) l_L_letter c_L_letter k_L_letter
  have b_L_letter := F_L_letter.binds (ps := ["_law_pot_here"]) fun _ _ _ _ _ _ us hl => match us, hl with | [_], _ => rfl
  have F_L_far := fun_mk (st := s_L_far) l_L_far c_L_far k_L_far
  have b_L_far := F_L_far.binds (ps := ["_law_pot_here"]) fun _ _ _ _ _ _ us hl => match us, hl with | [_], _ => rfl
  have F_L_number := fun_mk (st := s_L_number) l_L_number c_L_number k_L_number
  have b_L_number := F_L_number.binds (ps := ["_law_pot_here"]) fun _ _ _ _ _ _ us hl => match us, hl with | [_], _ => rfl
  have F_L_line := fun_mk (st := s_L_line) l_L_line c_L_line k_L_line
  have b_L_line := F_L_line.binds (ps := ["_law_pot_here"]) fun _ _ _ _ _ _ us hl => match us, hl with | [_], _ => rfl
  have F_L_tickets := fun_mk (st := s_L_tickets) l_L_tickets c_L_tickets k_L_tickets
  have b_L_tickets := F_L_tickets.binds (ps := ["_law_pot_here", "_law_rail", "_law_other", "_law_spin"]) fun _ _ _ _ _ _ us hl => match us, hl with | [_, _, _, _], _ => rfl
  have F_is_whole := fun_mk (st := s_is_whole) l_is_whole c_is_whole k_is_whole
  have b_is_whole := F_is_whole.binds (ps := ["thing"]) fun _ _ _ _ _ _ us hl => match us, hl with | [_], _ => rfl
  have F_told_at := fun_mk (st := s_told_at) l_told_at c_told_at k_told_at
  have b_told_at := F_told_at.binds (ps := ["line", "turn"]) fun _ _ _ _ _ _ us hl => match us, hl with | [_, _], _ => rfl
  have F_turn_of := fun_mk (st := s_turn_of) l_turn_of c_turn_of k_turn_of
  have b_turn_of := F_turn_of.binds (ps := ["line", "ticket"]) fun _ _ _ _ _ _ us hl => match us, hl with | [_, _], _ => rfl
  have F_L_told := fun_mk (st := s_L_told) l_L_told c_L_told k_L_told
  have b_L_told := F_L_told.binds (ps := ["_law_rail", "_law_spin"]) fun _ _ _ _ _ _ us hl => match us, hl with | [_, _], _ => rfl
  have F_L_back := fun_mk (st := s_L_back) l_L_back c_L_back k_L_back
  have b_L_back := F_L_back.binds (ps := ["_law_rail", "_law_card"]) fun _ _ _ _ _ _ us hl => match us, hl with | [_, _], _ => rfl
  have F_L_refused := fun_mk (st := s_L_refused) l_L_refused c_L_refused k_L_refused
  have b_L_refused := F_L_refused.binds (ps := ["_law_rail", "_law_spin"]) fun _ _ _ _ _ _ us hl => match us, hl with | [_, _], _ => rfl
  have F_law := fun_mk (st := s_law) l_law c_law k_law
  refine ⟨PySem.W.fnOf "law" "law" (defArgs s_law) (defBody s_law) (defScope s_law) .none kV_law dc_law pm_law an_law cd_law ct_law, fun s v => .of_eq rfl, GG K ⟨0, cl_NoNumber, cl_RowsError, cl_Absent, cl_Barred, cl_TooMany, cl_NoForm, cl_NoLetter, cl_NoPlace, cl_NoSize, cl_NoTicket⟩, rfl, fun base _ _ => ?_⟩
  have kb_told_at_0 : KwB K _ ["line", "turn"] ["turn", "line"] 0 2 [1, 0] [] := fun s us ws _ h1 h2 => match us, ws, h1, h2 with | [], [w0, w1], _, _ => .of_eq (fd := PySem.W.fnOf "told_at" "told_at" (defArgs s_told_at) (defBody s_told_at) (defScope s_told_at) .none kV_told_at dc_told_at pm_told_at an_told_at cd_told_at ct_told_at) rfl
  have kb_turn_of_1 : KwB K _ ["line", "ticket"] ["ticket", "line"] 0 2 [1, 0] [] := fun s us ws _ h1 h2 => match us, ws, h1, h2 with | [], [w0, w1], _, _ => .of_eq (fd := PySem.W.fnOf "turn_of" "turn_of" (defArgs s_turn_of) (defBody s_turn_of) (defScope s_turn_of) .none kV_turn_of dc_turn_of pm_turn_of an_turn_of cd_turn_of ct_turn_of) rfl
  have G_L_pot := fn_p (P := P) (w := w) (mg := mg) (base := base) (G := GG K ⟨0, cl_NoNumber, cl_RowsError, cl_Absent, cl_Barred, cl_TooMany, cl_NoForm, cl_NoLetter, cl_NoPlace, cl_NoSize, cl_NoTicket⟩) (XR := XR0) (k := 0) F_L_pot sc_L_pot (Φ := P_L_pot) (fun _ _ h => h) (fun cdv A outer s H E hr hg => der_L_pot bn cn ce   cdv A outer s H E hr hg)
  have I_L_pot : FnI P w K mg base "_law_pot" 1 ["_law_script", "_law_k"] (spP (GG K ⟨0, cl_NoNumber, cl_RowsError, cl_Absent, cl_Barred, cl_TooMany, cl_NoForm, cl_NoLetter, cl_NoPlace, cl_NoSize, cl_NoTicket⟩) XR0 2 P_L_pot) f_L_pot _ := ⟨G_L_pot, PySem.W.mg_of X G a_L_pot, k_L_pot, b_L_pot⟩
  have G_L_digit := fn_m (P := P) (w := w) (mg := mg) (base := base) (G := GG K ⟨0, cl_NoNumber, cl_RowsError, cl_Absent, cl_Barred, cl_TooMany, cl_NoForm, cl_NoLetter, cl_NoPlace, cl_NoSize, cl_NoTicket⟩) (XR := XR0) (k := 0) F_L_digit sc_L_digit (Φ := P_L_digit) (fun _ _ _ h => h) (fun cdv A outer s H E hr hg => der_L_digit bn cn ce   cdv A outer s H E hr hg)
  have I_L_digit : FnI P w K mg base "_law_digit" 1 ["_law_pot_here", "_law_many"] (spM (GG K ⟨0, cl_NoNumber, cl_RowsError, cl_Absent, cl_Barred, cl_TooMany, cl_NoForm, cl_NoLetter, cl_NoPlace, cl_NoSize, cl_NoTicket⟩) XR0 2 P_L_digit) f_L_digit _ := ⟨G_L_digit, PySem.W.mg_of X G a_L_digit, k_L_digit, b_L_digit⟩
  have G_L_letter := fn_m (P := P) (w := w) (mg := mg) (base := base) (G := GG K ⟨0, cl_NoNumber, cl_RowsError, cl_Absent, cl_Barred, cl_TooMany, cl_NoForm, cl_NoLetter, cl_NoPlace, cl_NoSize, cl_NoTicket⟩) (XR := XR0) (k := 1) F_L_letter sc_L_letter (Φ := P_L_letter) (fun _ _ _ h => h) (fun cdv A outer s H E hr hg => der_L_letter bn cn ce I_L_digit  cdv A outer s H E hr hg)
  have I_L_letter : FnI P w K mg base "_law_letter" 2 ["_law_pot_here"] (spM (GG K ⟨0, cl_NoNumber, cl_RowsError, cl_Absent, cl_Barred, cl_TooMany, cl_NoForm, cl_NoLetter, cl_NoPlace, cl_NoSize, cl_NoTicket⟩) XR0 1 P_L_letter) f_L_letter _ := ⟨G_L_letter, PySem.W.mg_of X G a_L_letter, k_L_letter, b_L_letter⟩
  have G_L_far := fn_m (P := P) (w := w) (mg := mg) (base := base) (G := GG K ⟨0, cl_NoNumber, cl_RowsError, cl_Absent, cl_Barred, cl_TooMany, cl_NoForm, cl_NoLetter, cl_NoPlace, cl_NoSize, cl_NoTicket⟩) (XR := XR0) (k := 1) F_L_far sc_L_far (Φ := P_L_far) (fun _ _ _ h => h) (fun cdv A outer s H E hr hg => der_L_far bn cn ce I_L_digit  cdv A outer s H E hr hg)
  have I_L_far : FnI P w K mg base "_law_far" 2 ["_law_pot_here"] (spM (GG K ⟨0, cl_NoNumber, cl_RowsError, cl_Absent, cl_Barred, cl_TooMany, cl_NoForm, cl_NoLetter, cl_NoPlace, cl_NoSize, cl_NoTicket⟩) XR0 1 P_L_far) f_L_far _ := ⟨G_L_far, PySem.W.mg_of X G a_L_far, k_L_far, b_L_far⟩
  have G_L_number := fn_m (P := P) (w := w) (mg := mg) (base := base) (G := GG K ⟨0, cl_NoNumber, cl_RowsError, cl_Absent, cl_Barred, cl_TooMany, cl_NoForm, cl_NoLetter, cl_NoPlace, cl_NoSize, cl_NoTicket⟩) (XR := XR0) (k := 2) F_L_number sc_L_number (Φ := P_L_number) (fun _ _ _ h => h) (fun cdv A outer s H E hr hg => der_L_number bn cn ce I_L_digit I_L_far  cdv A outer s H E hr hg)
  have I_L_number : FnI P w K mg base "_law_number" 3 ["_law_pot_here"] (spM (GG K ⟨0, cl_NoNumber, cl_RowsError, cl_Absent, cl_Barred, cl_TooMany, cl_NoForm, cl_NoLetter, cl_NoPlace, cl_NoSize, cl_NoTicket⟩) XR0 1 P_L_number) f_L_number _ := ⟨G_L_number, PySem.W.mg_of X G a_L_number, k_L_number, b_L_number⟩
  have G_L_line := fn_m (P := P) (w := w) (mg := mg) (base := base) (G := GG K ⟨0, cl_NoNumber, cl_RowsError, cl_Absent, cl_Barred, cl_TooMany, cl_NoForm, cl_NoLetter, cl_NoPlace, cl_NoSize, cl_NoTicket⟩) (XR := XR0) (k := 3) F_L_line sc_L_line (Φ := P_L_line) (fun _ _ _ h => h) (fun cdv A outer s H E hr hg => der_L_line bn cn ce I_L_letter I_L_number  cdv A outer s H E hr hg)
  have I_L_line : FnI P w K mg base "_law_line" 4 ["_law_pot_here"] (spM (GG K ⟨0, cl_NoNumber, cl_RowsError, cl_Absent, cl_Barred, cl_TooMany, cl_NoForm, cl_NoLetter, cl_NoPlace, cl_NoSize, cl_NoTicket⟩) XR0 1 P_L_line) f_L_line _ := ⟨G_L_line, PySem.W.mg_of X G a_L_line, k_L_line, b_L_line⟩
  have G_L_tickets := fn_m (P := P) (w := w) (mg := mg) (base := base) (G := GG K ⟨0, cl_NoNumber, cl_RowsError, cl_Absent, cl_Barred, cl_TooMany, cl_NoForm, cl_NoLetter, cl_NoPlace, cl_NoSize, cl_NoTicket⟩) (XR := XR0) (k := 3) F_L_tickets sc_L_tickets (Φ := P_L_tickets) (fun _ _ _ h => h) (fun cdv A outer s H E hr hg => der_L_tickets bn cn ce I_L_digit I_L_number  cdv A outer s H E hr hg)
  have I_L_tickets : FnI P w K mg base "_law_tickets" 4 ["_law_pot_here", "_law_rail", "_law_other", "_law_spin"] (spM (GG K ⟨0, cl_NoNumber, cl_RowsError, cl_Absent, cl_Barred, cl_TooMany, cl_NoForm, cl_NoLetter, cl_NoPlace, cl_NoSize, cl_NoTicket⟩) XR0 4 P_L_tickets) f_L_tickets _ := ⟨G_L_tickets, PySem.W.mg_of X G a_L_tickets, k_L_tickets, b_L_tickets⟩
  have G_is_whole := fn_p (P := P) (w := w) (mg := mg) (base := base) (G := GG K ⟨0, cl_NoNumber, cl_RowsError, cl_Absent, cl_Barred, cl_TooMany, cl_NoForm, cl_NoLetter, cl_NoPlace, cl_NoSize, cl_NoTicket⟩) (XR := XR0) (k := 0) F_is_whole sc_is_whole (Φ := P_is_whole) (fun _ _ h => h) (fun cdv A outer s H E hr hg => der_is_whole bn cn ce   cdv A outer s H E hr hg)
  have I_is_whole : FnI P w K mg base "is_whole" 1 ["thing"] (spP (GG K ⟨0, cl_NoNumber, cl_RowsError, cl_Absent, cl_Barred, cl_TooMany, cl_NoForm, cl_NoLetter, cl_NoPlace, cl_NoSize, cl_NoTicket⟩) XR0 1 P_is_whole) f_is_whole _ := ⟨G_is_whole, PySem.W.mg_of X G a_is_whole, k_is_whole, b_is_whole⟩
  have G_told_at := fn_p (P := P) (w := w) (mg := mg) (base := base) (G := GG K ⟨0, cl_NoNumber, cl_RowsError, cl_Absent, cl_Barred, cl_TooMany, cl_NoForm, cl_NoLetter, cl_NoPlace, cl_NoSize, cl_NoTicket⟩) (XR := XR0) (k := 1) F_told_at sc_told_at (Φ := P_told_at) (fun _ _ h => h) (fun cdv A outer s H E hr hg => der_told_at bn cn ce I_is_whole  cdv A outer s H E hr hg)
  have I_told_at : FnI P w K mg base "told_at" 2 ["line", "turn"] (spP (GG K ⟨0, cl_NoNumber, cl_RowsError, cl_Absent, cl_Barred, cl_TooMany, cl_NoForm, cl_NoLetter, cl_NoPlace, cl_NoSize, cl_NoTicket⟩) XR0 2 P_told_at) f_told_at _ := ⟨G_told_at, PySem.W.mg_of X G a_told_at, k_told_at, b_told_at⟩
  have G_turn_of := fn_p (P := P) (w := w) (mg := mg) (base := base) (G := GG K ⟨0, cl_NoNumber, cl_RowsError, cl_Absent, cl_Barred, cl_TooMany, cl_NoForm, cl_NoLetter, cl_NoPlace, cl_NoSize, cl_NoTicket⟩) (XR := XR0) (k := 0) F_turn_of sc_turn_of (Φ := P_turn_of) (fun _ _ h => h) (fun cdv A outer s H E hr hg => der_turn_of bn cn ce   cdv A outer s H E hr hg)
  have I_turn_of : FnI P w K mg base "turn_of" 1 ["line", "ticket"] (spP (GG K ⟨0, cl_NoNumber, cl_RowsError, cl_Absent, cl_Barred, cl_TooMany, cl_NoForm, cl_NoLetter, cl_NoPlace, cl_NoSize, cl_NoTicket⟩) XR0 2 P_turn_of) f_turn_of _ := ⟨G_turn_of, PySem.W.mg_of X G a_turn_of, k_turn_of, b_turn_of⟩
  have G_L_told := fn_p (P := P) (w := w) (mg := mg) (base := base) (G := GG K ⟨0, cl_NoNumber, cl_RowsError, cl_Absent, cl_Barred, cl_TooMany, cl_NoForm, cl_NoLetter, cl_NoPlace, cl_NoSize, cl_NoTicket⟩) (XR := XR0) (k := 2) F_L_told sc_L_told (Φ := P_L_told) (fun _ _ h => h) (fun cdv A outer s H E hr hg => der_L_told bn cn ce I_told_at I_turn_of kb_told_at_0 kb_turn_of_1 cdv A outer s H E hr hg)
  have I_L_told : FnI P w K mg base "_law_told" 3 ["_law_rail", "_law_spin"] (spP (GG K ⟨0, cl_NoNumber, cl_RowsError, cl_Absent, cl_Barred, cl_TooMany, cl_NoForm, cl_NoLetter, cl_NoPlace, cl_NoSize, cl_NoTicket⟩) XR0 2 P_L_told) f_L_told _ := ⟨G_L_told, PySem.W.mg_of X G a_L_told, k_L_told, b_L_told⟩
  have G_L_back := fn_p (P := P) (w := w) (mg := mg) (base := base) (G := GG K ⟨0, cl_NoNumber, cl_RowsError, cl_Absent, cl_Barred, cl_TooMany, cl_NoForm, cl_NoLetter, cl_NoPlace, cl_NoSize, cl_NoTicket⟩) (XR := XR0) (k := 1) F_L_back sc_L_back (Φ := P_L_back) (fun _ _ h => h) (fun cdv A outer s H E hr hg => der_L_back bn cn ce I_turn_of  cdv A outer s H E hr hg)
  have I_L_back : FnI P w K mg base "_law_back" 2 ["_law_rail", "_law_card"] (spP (GG K ⟨0, cl_NoNumber, cl_RowsError, cl_Absent, cl_Barred, cl_TooMany, cl_NoForm, cl_NoLetter, cl_NoPlace, cl_NoSize, cl_NoTicket⟩) XR0 2 P_L_back) f_L_back _ := ⟨G_L_back, PySem.W.mg_of X G a_L_back, k_L_back, b_L_back⟩
  have G_L_refused := fn_p (P := P) (w := w) (mg := mg) (base := base) (G := GG K ⟨0, cl_NoNumber, cl_RowsError, cl_Absent, cl_Barred, cl_TooMany, cl_NoForm, cl_NoLetter, cl_NoPlace, cl_NoSize, cl_NoTicket⟩) (XR := XR0) (k := 2) F_L_refused sc_L_refused (Φ := P_L_refused) (fun _ _ h => h) (fun cdv A outer s H E hr hg => der_L_refused bn cn ce I_told_at  cdv A outer s H E hr hg)
  have I_L_refused : FnI P w K mg base "_law_refused" 3 ["_law_rail", "_law_spin"] (spP (GG K ⟨0, cl_NoNumber, cl_RowsError, cl_Absent, cl_Barred, cl_TooMany, cl_NoForm, cl_NoLetter, cl_NoPlace, cl_NoSize, cl_NoTicket⟩) XR0 2 P_L_refused) f_L_refused _ := ⟨G_L_refused, PySem.W.mg_of X G a_L_refused, k_L_refused, b_L_refused⟩
  have G_law := fn_p (P := P) (w := w) (mg := mg) (base := base) (G := GG K ⟨0, cl_NoNumber, cl_RowsError, cl_Absent, cl_Barred, cl_TooMany, cl_NoForm, cl_NoLetter, cl_NoPlace, cl_NoSize, cl_NoTicket⟩) (XR := XR0) (k := 4) F_law sc_law (Φ := P_law) (fun _ _ h => h) (fun cdv A outer s H E hr hg => der_law bn cn ce I_L_pot I_L_line I_L_digit I_L_number I_L_far I_L_tickets I_L_told I_L_back I_L_refused  cdv A outer s H E hr hg)
  exact G_law
end K12
open PySem PySem.W PyProof.Rows
set_option maxRecDepth 100000 in
set_option maxHeartbeats 0 in
theorem PySem.Challenge.cw_ticketrows_k12_turns_there_and_back_holds : PySem.Challenge.rw_ticketrows_k12_turns_there_and_back.Holds := by
  w_on; o_law; k_head; (case hw => w_witness2)
  k_fill
  refine Tk.walk_x (l := PySem.Challenge.rw_ticketrows_k12_turns_there_and_back) (n := 63) (k := 5) (x := "_law_script") (Φ := K12.P_law) rfl (by decide) rfl ⟨rfl, by decide, by decide⟩ (fun w h Y => PySem.W.kIn_of Y) ?F K12.law_true
  case F =>
    intro w mg fa h KX G hmg
    refine' K12.all_mk KX G hmg ?a_L_pot ?l_L_pot ?c_L_pot ?k_L_pot ?a_L_digit ?l_L_digit ?c_L_digit ?k_L_digit ?a_L_letter ?l_L_letter ?c_L_letter ?k_L_letter ?a_L_far ?l_L_far ?c_L_far ?k_L_far ?a_L_number ?l_L_number ?c_L_number ?k_L_number ?a_L_line ?l_L_line ?c_L_line ?k_L_line ?a_L_tickets ?l_L_tickets ?c_L_tickets ?k_L_tickets ?a_is_whole ?l_is_whole ?c_is_whole ?k_is_whole ?a_told_at ?l_told_at ?c_told_at ?k_told_at ?a_turn_of ?l_turn_of ?c_turn_of ?k_turn_of ?a_L_told ?l_L_told ?c_L_told ?k_L_told ?a_L_back ?l_L_back ?c_L_back ?k_L_back ?a_L_refused ?l_L_refused ?c_L_refused ?k_L_refused ?a_law ?l_law ?c_law ?k_law ?ag_NoNumber ?ag_RowsError ?ag_Absent ?ag_Barred ?ag_TooMany ?ag_NoForm ?ag_NoLetter ?ag_NoPlace ?ag_NoSize ?ag_NoTicket ?af_k_NoNumber ?af_x_NoNumber ?af_b_NoNumber ?af_t_NoNumber ?af_eg_NoNumber ?af_ek_NoNumber ?af_ed_NoNumber ?af_ea_NoNumber ?af_em_NoNumber ?af_b_RowsError ?af_i_RowsError ?af_t_RowsError ?af_s_NoNumber_RowsError ?af_i_NoNumber ?af_s_NoNumber_NoNumber ?af_s_NoNumber_ValueError ?af_i_Absent ?af_t_Absent ?af_s_NoNumber_Absent ?af_i_Barred ?af_t_Barred ?af_s_NoNumber_Barred ?af_i_TooMany ?af_t_TooMany ?af_s_NoNumber_TooMany ?af_i_NoForm ?af_t_NoForm ?af_s_NoNumber_NoForm ?af_i_NoLetter ?af_t_NoLetter ?af_s_NoNumber_NoLetter ?af_i_NoPlace ?af_t_NoPlace ?af_s_NoNumber_NoPlace ?af_i_NoSize ?af_t_NoSize ?af_s_NoNumber_NoSize ?af_i_NoTicket ?af_t_NoTicket ?af_s_NoNumber_NoTicket ?af_en_ ?af_et_ ?z_len ?z_abs ?z_max ?z_divmod ?z_range ?z_min ?z_isinstance ?z_int ?z_bool ?z_tuple ?z_repr ?z_ValueError ?z_all
    (case a_L_pot => k_is)
    (case l_L_pot => k_is)
    (case c_L_pot => k_is)
    (case k_L_pot => k_is)
    (case a_L_digit => k_is)
    (case l_L_digit => k_is)
    (case c_L_digit => k_is)
    (case k_L_digit => k_is)
    (case a_L_letter => k_is)
    (case l_L_letter => k_is)
    (case c_L_letter => k_is)
    (case k_L_letter => k_is)
    (case a_L_far => k_is)
    (case l_L_far => k_is)
    (case c_L_far => k_is)
    (case k_L_far => k_is)
    (case a_L_number => k_is)
    (case l_L_number => k_is)
    (case c_L_number => k_is)
    (case k_L_number => k_is)
    (case a_L_line => k_is)
    (case l_L_line => k_is)
    (case c_L_line => k_is)
    (case k_L_line => k_is)
    (case a_L_tickets => k_is)
    (case l_L_tickets => k_is)
    (case c_L_tickets => k_is)
    (case k_L_tickets => k_is)
    (case a_is_whole => k_is)
    (case l_is_whole => k_is)
    (case c_is_whole => k_is)
    (case k_is_whole => k_is)
    (case a_told_at => k_is)
    (case l_told_at => k_is)
    (case c_told_at => k_is)
    (case k_told_at => k_is)
    (case a_turn_of => k_is)
    (case l_turn_of => k_is)
    (case c_turn_of => k_is)
    (case k_turn_of => k_is)
    (case a_L_told => k_is)
    (case l_L_told => k_is)
    (case c_L_told => k_is)
    (case k_L_told => k_is)
    (case a_L_back => k_is)
    (case l_L_back => k_is)
    (case c_L_back => k_is)
    (case k_L_back => k_is)
    (case a_L_refused => k_is)
    (case l_L_refused => k_is)
    (case c_L_refused => k_is)
    (case k_L_refused => k_is)
    (case a_law => k_is)
    (case l_law => k_is)
    (case c_law => k_is)
    (case k_law => k_is)
    (case ag_NoNumber => k_is)
    (case ag_RowsError => k_is)
    (case ag_Absent => k_is)
    (case ag_Barred => k_is)
    (case ag_TooMany => k_is)
    (case ag_NoForm => k_is)
    (case ag_NoLetter => k_is)
    (case ag_NoPlace => k_is)
    (case ag_NoSize => k_is)
    (case ag_NoTicket => k_is)
    (case af_k_NoNumber => k_is)
    (case af_x_NoNumber => k_exc)
    (case af_b_NoNumber => k_is)
    (case af_t_NoNumber => k_is)
    (case af_eg_NoNumber => k_is)
    (case af_ek_NoNumber => k_is)
    (case af_ed_NoNumber => k_is)
    (case af_ea_NoNumber => k_is)
    (case af_em_NoNumber => k_is)
    (case af_b_RowsError => k_is)
    (case af_i_RowsError => k_is)
    (case af_t_RowsError => k_is)
    (case af_s_NoNumber_RowsError => k_is)
    (case af_i_NoNumber => k_is)
    (case af_s_NoNumber_NoNumber => k_is)
    (case af_s_NoNumber_ValueError => k_is)
    (case af_i_Absent => k_is)
    (case af_t_Absent => k_is)
    (case af_s_NoNumber_Absent => k_is)
    (case af_i_Barred => k_is)
    (case af_t_Barred => k_is)
    (case af_s_NoNumber_Barred => k_is)
    (case af_i_TooMany => k_is)
    (case af_t_TooMany => k_is)
    (case af_s_NoNumber_TooMany => k_is)
    (case af_i_NoForm => k_is)
    (case af_t_NoForm => k_is)
    (case af_s_NoNumber_NoForm => k_is)
    (case af_i_NoLetter => k_is)
    (case af_t_NoLetter => k_is)
    (case af_s_NoNumber_NoLetter => k_is)
    (case af_i_NoPlace => k_is)
    (case af_t_NoPlace => k_is)
    (case af_s_NoNumber_NoPlace => k_is)
    (case af_i_NoSize => k_is)
    (case af_t_NoSize => k_is)
    (case af_s_NoNumber_NoSize => k_is)
    (case af_i_NoTicket => k_is)
    (case af_t_NoTicket => k_is)
    (case af_s_NoNumber_NoTicket => k_is)
    (case af_en_ => k_is)
    (case af_et_ => k_is)
    (case z_len => k_is)
    (case z_abs => k_is)
    (case z_max => k_is)
    (case z_divmod => k_is)
    (case z_range => k_is)
    (case z_min => k_is)
    (case z_isinstance => k_is)
    (case z_int => k_is)
    (case z_bool => k_is)
    (case z_tuple => k_is)
    (case z_repr => k_is)
    (case z_ValueError => k_is)
    (case z_all => k_is)
