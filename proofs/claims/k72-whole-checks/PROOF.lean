import PyProof.Rows.All
import Wide.All
import OpenK.AllK
import Wide.FinOn
import HandS.ForMost
import HandS.ForExc
import HandS.CallSlots
import HandS.Flow
import HandS.TupAny
import HandS.TupMul
import HandS.List
import HandS.TupLe
import KE.DataEq
import HandS.IsInst
import HandS.Zip
import HandS.Text
import KE.GoesEnum
import HandS.Style
import HandS.Comp
import HandS.WordsExc
import PySem.Challenge.RW_bookpack_k72_whole_checks
set_option Elab.async false
set_option linter.all false
set_option autoImplicit false
set_option maxRecDepth 100000
set_option maxHeartbeats 40000000
/-! Vd1: data, what stands for it in the heap, the frame of a def as a row of slots, one step of it. -/
namespace Vd
open PySem PySem.Spec PyProof.Rows L2

/-! ### data -/
abbrev DK := Sum Int (List Nat)
inductive D where
  | non
  | bl (b : Bool)
  | int (i : Int)
  | str (l : List Nat)
  | tup (l : List D)
  | lst (l : List D)
  | dct (l : List (DK × D))
  | ins (c : Nat) (fs : List (Nat × D))
  deriving Inhabited
/-- a text by its codes -/
def sT (l : List Nat) : Str := ⟨l.toArray⟩
def kT : DK → Key
  | .inl i => .inl i
  | .inr l => .inr (sT l)
/-- what the proof knows of the whole text: the written part, classes by number, attribute names by number; tables of code objects (tb) and what is kept of them (tok) -/
structure Gx where
  K : PySem.W.Frag
  ca : Nat → Addr
  fl : Nat → Str
  tb : Addr → Prop
  tok : Hp → Prop
  tokU : ∀ H a o, tok H → (∀ ps, H a ≠ some (.tbl ps)) → (∀ p, H a ≠ some (.ext p)) → tok (upd H a o)
def Ex (H H' : Hp) : Prop := ∀ a o, H a = some o → H' a = some o
theorem Ex.refl (H : Hp) : Ex H H := fun _ _ h => h
theorem Ex.trans {H H1 H2 : Hp} (p : Ex H H1) (q : Ex H1 H2) : Ex H H2 := fun a o h => q a o (p a o h)
theorem Ex.new {H : Hp} {p : Addr} {o : HO} (h : H p = none) : Ex H (upd H p o) := fun a u e => by
  rw [upd_ne (ne_of_none e h)]; exact e
theorem Ex.back {H H' : Hp} {a : Addr} (e : Ex H H') (h : H' a = none) : H a = none := by
  cases q : H a with
  | none => rfl
  | some o => rw [e a o q] at h; cases h
theorem Ex.sqt {K : PySem.W.Frag} {H H' : Hp} {a : Addr} {xs : List V} (e : Ex H H') (h : SqT K H a xs) : SqT K H' a xs := by
  rcases h with (h | ⟨o, h⟩) | h
  · exact .inl (.inl (e _ _ h))
  · exact .inl (.inr ⟨o, e _ _ h⟩)
  · exact .inr h

theorem Ex.sql {K : PySem.W.Frag} {H H' : Hp} {a : Addr} {xs : List V} (e : Ex H H') (h : SqL K H a xs) : SqL K H' a xs := by
  rcases h with (h | ⟨o, h⟩) | h
  · exact .inl (.inl (e _ _ h))
  · exact .inl (.inr ⟨o, e _ _ h⟩)
  · exact .inr h

/-! ### what stands for data -/
mutual
def Rp (g : Gx) (H : Hp) : D → V → Prop
  | .non, v => v = .non
  | .bl b, v => v = .bl b
  | .int i, v => v = .int i
  | .str l, v => v = .str (sT l) ∧ l.length ≤ sizeLine
  | .tup l, v => ∃ a vs, v = .ref a ∧ SqT g.K H a vs ∧ Rps g H l vs
  | .lst l, v => ∃ a vs, v = .ref a ∧ SqL g.K H a vs ∧ Rps g H l vs
  | .dct l, v => ∃ a kvs, v = .ref a ∧ H a = some (.dK kvs) ∧ Rpk g H l kvs
  | .ins c fs, v => ∃ a dx kfs, v = .ref a ∧ H a = some (.ins (g.ca c) dx kfs) ∧ Rpf g H fs kfs
def Rps (g : Gx) (H : Hp) : List D → List V → Prop
  | [], vs => vs = []
  | d :: l, vs => ∃ v r, vs = v :: r ∧ Rp g H d v ∧ Rps g H l r
def Rpk (g : Gx) (H : Hp) : List (DK × D) → List (Key × V) → Prop
  | [], vs => vs = []
  | (k, d) :: l, vs => ∃ v r, vs = (kT k, v) :: r ∧ Rp g H d v ∧ Rpk g H l r
def Rpf (g : Gx) (H : Hp) : List (Nat × D) → List (Str × V) → Prop
  | [], vs => vs = []
  | (n, d) :: l, vs => ∃ v r, vs = (g.fl n, v) :: r ∧ Rp g H d v ∧ Rpf g H l r
end
section
variable {g : Gx} {H H' : Hp}
mutual
theorem Rp.mono (e : Ex H H') : ∀ (d : D) (v : V), Rp g H d v → Rp g H' d v
  | .non, _, h => h
  | .bl _, _, h => h
  | .int _, _, h => h
  | .str _, _, h => h
  | .tup l, v, h => by
    obtain ⟨a, vs, rfl, h1, h2⟩ := h
    exact ⟨a, vs, rfl, e.sqt h1, Rps.mono e l vs h2⟩
  | .lst l, v, h => by
    obtain ⟨a, vs, rfl, h1, h2⟩ := h
    exact ⟨a, vs, rfl, e.sql h1, Rps.mono e l vs h2⟩
  | .dct l, v, h => by
    obtain ⟨a, vs, rfl, h1, h2⟩ := h
    exact ⟨a, vs, rfl, e _ _ h1, Rpk.mono e l vs h2⟩
  | .ins c fs, v, h => by
    obtain ⟨a, dx, vs, rfl, h1, h2⟩ := h
    exact ⟨a, dx, vs, rfl, e _ _ h1, Rpf.mono e fs vs h2⟩
theorem Rps.mono (e : Ex H H') : ∀ (l : List D) (vs : List V), Rps g H l vs → Rps g H' l vs
  | [], _, h => h
  | d :: l, vs, h => by
    obtain ⟨v, r, rfl, h1, h2⟩ := h
    exact ⟨v, r, rfl, Rp.mono e d v h1, Rps.mono e l r h2⟩
theorem Rpk.mono (e : Ex H H') : ∀ (l : List (DK × D)) (vs : List (Key × V)), Rpk g H l vs → Rpk g H' l vs
  | [], _, h => h
  | (k, d) :: l, vs, h => by
    obtain ⟨v, r, rfl, h1, h2⟩ := h
    exact ⟨v, r, rfl, Rp.mono e d v h1, Rpk.mono e l r h2⟩
theorem Rpf.mono (e : Ex H H') : ∀ (l : List (Nat × D)) (vs : List (Str × V)), Rpf g H l vs → Rpf g H' l vs
  | [], _, h => h
  | (n, d) :: l, vs, h => by
    obtain ⟨v, r, rfl, h1, h2⟩ := h
    exact ⟨v, r, rfl, Rp.mono e d v h1, Rpf.mono e l r h2⟩
end
theorem Rps.length : ∀ {l : List D} {vs : List V}, Rps g H l vs → vs.length = l.length
  | [], _, h => by cases h; rfl
  | _ :: _, _, h => by
    obtain ⟨v, r, rfl, _, h2⟩ := h
    simp [Rps.length h2]
theorem Rps.get : ∀ {l : List D} {vs : List V} {i : Nat} {d : D}, Rps g H l vs → l[i]? = some d → ∃ v, vs[i]? = some v ∧ Rp g H d v
  | [], _, _, _, _, e => by simp at e
  | d :: l, vs, 0, d', h, e => by
    obtain ⟨v, r, rfl, h1, h2⟩ := h
    simp at e; subst e
    exact ⟨v, rfl, h1⟩
  | d :: l, vs, i + 1, d', h, e => by
    obtain ⟨v, r, rfl, h1, h2⟩ := h
    obtain ⟨w, e1, e2⟩ := Rps.get (i := i) (d := d') h2 (by simpa using e)
    exact ⟨w, by simpa using e1, e2⟩
theorem Rps.app : ∀ {l m : List D} {vs ws : List V}, Rps g H l vs → Rps g H m ws → Rps g H (l ++ m) (vs ++ ws)
  | [], _, _, _, h, k => by cases h; exact k
  | d :: l, m, vs, ws, h, k => by
    obtain ⟨v, r, rfl, h1, h2⟩ := h
    exact ⟨v, r ++ ws, rfl, h1, Rps.app h2 k⟩
theorem Rps.one {d : D} {v : V} (h : Rp g H d v) : Rps g H [d] [v] := ⟨v, [], rfl, h, rfl⟩
theorem Rps.cons {d : D} {v : V} {l : List D} {vs : List V} (h : Rp g H d v) (k : Rps g H l vs) : Rps g H (d :: l) (v :: vs) := ⟨v, vs, rfl, h, k⟩
theorem Rps.take : ∀ (n : Nat) {l : List D} {vs : List V}, Rps g H l vs → Rps g H (l.take n) (vs.take n)
  | 0, _, _, _ => rfl
  | _ + 1, [], _, h => by cases h; rfl
  | n + 1, d :: l, vs, h => by
    obtain ⟨v, r, rfl, h1, h2⟩ := h
    exact ⟨v, r.take n, rfl, h1, Rps.take n h2⟩
theorem Rps.drop : ∀ (n : Nat) {l : List D} {vs : List V}, Rps g H l vs → Rps g H (l.drop n) (vs.drop n)
  | 0, _, _, h => h
  | _ + 1, [], _, h => by cases h; rfl
  | n + 1, d :: l, vs, h => by
    obtain ⟨v, r, rfl, h1, h2⟩ := h
    exact Rps.drop n h2
theorem Rps.set : ∀ {l : List D} {vs : List V} (i : Nat) {d : D} {v : V}, Rps g H l vs → Rp g H d v → Rps g H (l.set i d) (vs.set i v)
  | [], _, _, _, _, h, _ => by cases h; rfl
  | _ :: l, vs, 0, d, w, h, k => by
    obtain ⟨v, r, rfl, h1, h2⟩ := h
    exact ⟨w, r, rfl, k, h2⟩
  | _ :: l, vs, i + 1, d, w, h, k => by
    obtain ⟨v, r, rfl, h1, h2⟩ := h
    exact ⟨v, r.set i w, rfl, h1, Rps.set i h2 k⟩
theorem Rps.dropLast {l : List D} {vs : List V} (h : Rps g H l vs) : Rps g H l.dropLast vs.dropLast := by
  rw [List.dropLast_eq_take, List.dropLast_eq_take, h.length]
  exact h.take _
theorem Rps.rev : ∀ {l : List D} {vs : List V}, Rps g H l vs → Rps g H l.reverse vs.reverse
  | [], _, h => by cases h; rfl
  | _ :: l, vs, h => by
    obtain ⟨v, r, rfl, h1, h2⟩ := h
    rw [List.reverse_cons, List.reverse_cons]
    exact (Rps.rev h2).app (.one h1)
theorem Rps.rep {l : List D} {vs : List V} (h : Rps g H l vs) : ∀ n : Nat, Rps g H (List.replicate n l).flatten (List.replicate n vs).flatten
  | 0 => rfl
  | n + 1 => by
    rw [List.replicate_succ, List.replicate_succ, List.flatten_cons, List.flatten_cons]
    exact h.app (h.rep n)
end

/-! ### owned objects, slots -/
inductive OC where
  | ol (l : List D)
  | od (l : List (DK × D))
  | oi (c : Nat) (fs : List (Nat × D))
  deriving Inhabited
def OC.toD : OC → D
  | .ol l => .lst l
  | .od l => .dct l
  | .oi c fs => .ins c fs
def RO (g : Gx) (Hb H : Hp) : OC → Addr → Prop
  | .ol l, a => ∃ vs, H a = some (.lst vs) ∧ Rps g Hb l vs
  | .od l, a => ∃ kvs, H a = some (.dK kvs) ∧ Rpk g Hb l kvs
  | .oi c fs, a => ∃ dx kfs, H a = some (.ins (g.ca c) dx kfs) ∧ Rpf g Hb fs kfs
theorem RO.toD {g : Gx} {H : Hp} {c : OC} {a : Addr} (h : RO g H H c a) : Rp g H c.toD (.ref a) := by
  cases c with
  | ol l => obtain ⟨vs, h1, h2⟩ := h; exact ⟨a, vs, rfl, .of h1, h2⟩
  | od l => obtain ⟨vs, h1, h2⟩ := h; exact ⟨a, vs, rfl, h1, h2⟩
  | oi c l => obtain ⟨dx, vs, h1, h2⟩ := h; exact ⟨a, dx, vs, rfl, h1, h2⟩
theorem RO.mono {g : Gx} {Hb Hb' H H' : Hp} {c : OC} {a : Addr} (e : Ex Hb Hb') (k : ∀ o, H a = some o → H' a = some o) (h : RO g Hb H c a) : RO g Hb' H' c a := by
  cases c with
  | ol l => obtain ⟨vs, h1, h2⟩ := h; exact ⟨vs, k _ h1, Rps.mono e l vs h2⟩
  | od l => obtain ⟨vs, h1, h2⟩ := h; exact ⟨vs, k _ h1, Rpk.mono e l vs h2⟩
  | oi c l => obtain ⟨dx, vs, h1, h2⟩ := h; exact ⟨dx, vs, k _ h1, Rpf.mono e l vs h2⟩
theorem RO.there {g : Gx} {Hb H : Hp} {c : OC} {a : Addr} (h : RO g Hb H c a) : ∃ o, H a = some o ∧ (∀ ps, o ≠ .tbl ps) ∧ (∀ p, o ≠ .ext p) := by
  cases c with
  | ol l => obtain ⟨vs, h1, h2⟩ := h; exact ⟨_, h1, (fun _ z => by cases z), (fun _ z => by cases z)⟩
  | od l => obtain ⟨vs, h1, h2⟩ := h; exact ⟨_, h1, (fun _ z => by cases z), (fun _ z => by cases z)⟩
  | oi c l => obtain ⟨dx, vs, h1, h2⟩ := h; exact ⟨_, h1, (fun _ z => by cases z), (fun _ z => by cases z)⟩
/-- a slot: nothing known | data that stays | an object of the frame's own (b: lent by the caller; k: locked by a loop) -/
inductive SS where
  | un
  | dat (d : D)
  | own (b k : Bool) (c : OC)
  deriving Inhabited
abbrev VE := List SS
def Ow (g : Gx) (env : VE) (σ : L2.St) (a : Addr) : Prop := g.tb a ∨ ∃ (i : Nat) (b k : Bool) (c : OC), env[i]? = some (SS.own b k c) ∧ σ[i]? = some (some (V.ref a))
structure VS (g : Gx) (Hb : Hp) (env : VE) (σ : L2.St) (H : Hp) : Prop where
  len : env.length = σ.length
  ex : Ex Hb H
  dat : ∀ (i : Nat) (d : D), env[i]? = some (SS.dat d) → ∃ v, σ[i]? = some (some v) ∧ Rp g Hb d v
  own : ∀ (i : Nat) (b k : Bool) (c : OC), env[i]? = some (SS.own b k c) → ∃ a, σ[i]? = some (some (V.ref a)) ∧ Hb a = none ∧ RO g Hb H c a
  inj : ∀ (i j : Nat) (b k : Bool) (c : OC) (b' k' : Bool) (c' : OC) (a : Addr), env[i]? = some (SS.own b k c) → env[j]? = some (SS.own b' k' c') → σ[i]? = some (some (V.ref a)) → σ[j]? = some (some (V.ref a)) → i = j
  tok : g.tok H
  tbn : ∀ a, g.tb a → Hb a = none ∧ (∃ ps, H a = some (.tbl ps))
structure VP (S : Addr → Prop) (Hb H : Hp) (S' : Addr → Prop) (Hb' H' : Hp) : Prop where
  b : Ex Hb Hb'
  k : ∀ a o, H a = some o → ¬ S a → H' a = some o
  n : ∀ a o, Hb' a = some o → Hb a = some o ∨ H a = none ∨ S a
  s : ∀ a, S' a → S a ∨ H a = none
  t : ∀ a, H' a = none → H a = none
theorem VP.refl {S : Addr → Prop} {Hb H : Hp} : VP S Hb H S Hb H := ⟨Ex.refl _, fun _ _ h _ => h, fun _ _ h => .inl h, fun _ h => .inl h, fun _ h => h⟩
theorem VP.trans {S S1 S2 : Addr → Prop} {Hb H Hb1 H1 Hb2 H2 : Hp} (p : VP S Hb H S1 Hb1 H1) (q : VP S1 Hb1 H1 S2 Hb2 H2) : VP S Hb H S2 Hb2 H2 where
  b := p.b.trans q.b
  k := fun a o h n => q.k a o (p.k a o h n) fun z => by
    rcases p.s a z with z | z
    · exact n z
    · rw [z] at h; cases h
  n := fun a o h => by
    rcases q.n a o h with h | h | h
    · exact p.n a o h
    · exact .inr (.inl (p.t a h))
    · rcases p.s a h with h | h
      · exact .inr (.inr h)
      · exact .inr (.inl h)
  s := fun a h => by
    rcases q.s a h with h | h
    · exact p.s a h
    · exact .inr (p.t a h)
  t := fun a h => p.t a (q.t a h)
/-- a step within a smaller set -/
theorem VP.widen {S T : Addr → Prop} {Hb H Hb' H' : Hp} {S' T' : Addr → Prop} (p : VP S Hb H S' Hb' H') (h : ∀ a, S a → T a) (h' : ∀ a, T' a → T a ∨ H a = none) : VP T Hb H T' Hb' H' :=
  ⟨p.b, fun a o e n => p.k a o e fun z => n (h a z), fun a o e => (p.n a o e).imp id (Or.imp id (h a)), h', p.t⟩
section
variable {g : Gx} {Hb H H' : Hp} {env : VE} {σ : L2.St}
theorem Ow.ne_base (I : VS g Hb env σ H) {a : Addr} (h : Ow g env σ a) : Hb a = none := by
  rcases h with h | ⟨i, b, k, c, h1, h2⟩
  · exact (I.tbn a h).1
  · obtain ⟨a', e, n, _⟩ := I.own i b k c h1
    rw [h2] at e; cases e
    exact n
theorem Ow.there (I : VS g Hb env σ H) {a : Addr} (h : Ow g env σ a) : ∃ o, H a = some o := by
  rcases h with h | ⟨i, b, k, c, h1, h2⟩
  · obtain ⟨ps, e⟩ := (I.tbn a h).2
    exact ⟨_, e⟩
  · obtain ⟨a', e, n, r⟩ := I.own i b k c h1
    rw [h2] at e; cases e
    obtain ⟨o, e, _⟩ := r.there
    exact ⟨o, e⟩
theorem VS.tb_ne (I : VS g Hb env σ H) {a : Addr} (h : ∀ ps, H a ≠ some (.tbl ps)) : ¬ g.tb a := fun z => by
  obtain ⟨ps, e⟩ := (I.tbn a z).2
  exact h ps e
/-- a new object, not known from now on -/
theorem VS.temp (I : VS g Hb env σ H) {p : Addr} {o : HO} (hp : H p = none) : VS g Hb env σ (upd H p o) where
  len := I.len
  ex := I.ex.trans (.new hp)
  dat := I.dat
  own := fun i b k c h => by
    obtain ⟨a, e, n, r⟩ := I.own i b k c h
    exact ⟨a, e, n, r.mono (.refl _) fun o h => Ex.new hp _ _ h⟩
  inj := I.inj
  tok := g.tokU _ _ _ I.tok (fun ps z => by rw [hp] at z; cases z) (fun ps z => by rw [hp] at z; cases z)
  tbn := fun a h => ⟨(I.tbn a h).1, let ⟨ps, e⟩ := (I.tbn a h).2; ⟨ps, Ex.new hp _ _ e⟩⟩
/-- a temporary object is known from now on -/
theorem VS.keep (I : VS g Hb env σ H) {p : Addr} {o : HO} (hp : H p = some o) (hn : ¬ Ow g env σ p) (hb : Hb p = none) : VS g (upd Hb p o) env σ H where
  len := I.len
  ex := fun a u h => by
    by_cases q : a = p
    · subst q; rw [upd_same] at h; rw [hp]; exact h
    · rw [upd_ne q] at h; exact I.ex a u h
  dat := fun i d h => by
    obtain ⟨v, e, r⟩ := I.dat i d h
    exact ⟨v, e, Rp.mono (.new hb) d v r⟩
  own := fun i b k c h => by
    obtain ⟨a, e, n, r⟩ := I.own i b k c h
    have ne : a ≠ p := fun z => hn (.inr ⟨i, b, k, c, h, by rw [e, z]⟩)
    exact ⟨a, e, by rw [upd_ne ne]; exact n, r.mono (.new hb) fun o h => h⟩
  inj := I.inj
  tok := I.tok
  tbn := fun a h => by
    have ne : a ≠ p := fun z => hn (.inl (z ▸ h))
    exact ⟨by rw [upd_ne ne]; exact (I.tbn a h).1, (I.tbn a h).2⟩
theorem VP.temp {S : Addr → Prop} {p : Addr} {o : HO} (hp : H p = none) : VP S Hb H S Hb (upd H p o) :=
  ⟨.refl _, fun a u e _ => Ex.new hp _ _ e, fun _ _ h => .inl h, fun _ h => .inl h, fun _ h => Ex.back (.new hp) h⟩
theorem VP.new {S : Addr → Prop} {p : Addr} {o : HO} (hp : H p = none) (hb : Hb p = none) : VP S Hb H S (upd Hb p o) (upd H p o) where
  b := Ex.new hb
  k := fun a u e _ => Ex.new hp _ _ e
  n := fun a u e => by
    by_cases q : a = p
    · subst q; exact .inr (.inl hp)
    · rw [upd_ne q] at e; exact .inl e
  s := fun _ h => .inl h
  t := fun _ h => Ex.back (.new hp) h
end
end Vd
/-! Vd2: the small language and what it computes. -/
namespace Vd
open PySem L2

structure XD where
  c : Nat
  fs : List (Nat × D)
  deriving Inhabited
inductive R (α : Type) where
  | ok (a : α) (e : VE)
  | rz (x : XD) (e : VE)
  | no
def R.bind {α β : Type} (r : R α) (f : α → VE → R β) : R β :=
  match r with
  | .ok a e => f a e
  | .rz x e => .rz x e
  | .no => .no
@[simp] theorem R.bind_ok {α β : Type} (a : α) (e : VE) (f : α → VE → R β) : (R.ok a e).bind f = f a e := rfl
@[simp] theorem R.bind_rz {α β : Type} (x : XD) (e : VE) (f : α → VE → R β) : (R.rz x e : R α).bind f = .rz x e := rfl
@[simp] theorem R.bind_no {α β : Type} (f : α → VE → R β) : (R.no : R α).bind f = .no := rfl
/-- no exception passes -/
def R.calm {α : Type} : R α → R α
  | .rz _ _ => .no
  | r => r
@[simp] theorem R.calm_ok {α : Type} (a : α) (e : VE) : (R.ok a e).calm = .ok a e := rfl
@[simp] theorem R.calm_no {α : Type} : (R.no : R α).calm = .no := rfl
/-- a value while an expression is computed: data | what the slot i holds | a new object that nobody else knows -/
inductive Val where
  | p (d : D)
  | vw (i : Nat)
  | fr (c : OC)
  deriving Inhabited
inductive Arg where
  | p (d : D)
  | o (k : Bool) (c : OC)
  deriving Inhabited
def Arg.ss : Arg → SS
  | .p d => .dat d
  | .o k c => .own true k c
inductive Ret where
  | p (d : D)
  | fr (c : OC)
  deriving Inhabited
inductive RF where
  | ok (r : Ret) (l : List Arg)
  | rz (x : XD) (l : List Arg)
  | no
def SS.rd : SS → Option D
  | .un => none
  | .dat d => some d
  | .own _ _ c => some c.toD
def rd (e : VE) : Val → Option D
  | .p d => some d
  | .vw i => (e[i]?).bind SS.rd
  | .fr c => some c.toD

inductive O2 where | add | sub | mul | fdiv | mod | pow
  deriving DecidableEq
inductive Cq where | eq | ne | lt | le | gt | ge | isin | notin | is | isnt
  deriving DecidableEq
inductive Ty where | int | str | bool | tuple | list | dict | own (c : Nat)
  deriving DecidableEq
inductive B1 where | len | int | str | bool | tuple | list | all | any | sum | ord | chr | repr | setlen | max | min | abs
  deriving DecidableEq
inductive M1 where | append | extend | pop | insert | index | count | join | split | startswith | partition | find | get | setdefault
  deriving DecidableEq
inductive Ik where | seq | rng | enum | zip | rev | items
  deriving DecidableEq
inductive TG where
  | nm (i : Nat)
  | tp (l : List TG)
inductive T where
  | var (i : Nat)
  | int (i : Int)
  | bl (b : Bool)
  | non
  | str (l : List Nat)
  | con (k : Nat)
  | bin (o : O2) (a b : T)
  | cmp (o : Cq) (a b : T)
  | chn (o p : Cq) (a b c : T)
  | and (a b : T)
  | or (a b : T)
  | not (a : T)
  | neg (a : T)
  | ite (c a b : T)
  | tup (l : List T)
  | lst (l : List T)
  | dct (ks : List DK) (l : List T)
  | ix (a b : T)
  | sl (a : T) (lo hi : Option T)
  | call (f : Nat) (l : List T)
  | bi (b : B1) (l : List T)
  | mt (m : M1) (a : T) (l : List T)
  | isi (a : T) (ts : List Ty)
  | lc (e : T) (g : TG) (k : Ik) (l : List T) (c : Option T) (own : List Nat)
inductive S where
  | set (i : Nat) (e : T)
  | par (l : List Nat) (es : List T)
  | unp (g : TG) (e : T)
  | sub (a i e : T)
  | exp (e : T)
  | ret (e : T)
  | retn
  | ifs (c : T) (a b : List S)
  | fors (g : TG) (k : Ik) (l : List T) (b : List S)
  | whl (n : Nat) (c : T) (b : List S)
  | brk
  | cnt
  | pas
  | bad
  deriving Inhabited
/-- what the text's names stand for -/
structure CE where
  con : Nat → D
  fn : Nat → List Arg → RF

/-! ### operations on data -/
abbrev big : Int := 18446744073709551616
def line : Nat := 16777216
/-- intsD, texts, lists, tuples -/
def bop : O2 → D → D → Option Val
  | .add, .int i, .int j => some (.p (.int (i + j)))
  | .add, .str a, .str b => if a.length + b.length ≤ line then some (.p (.str (a ++ b))) else none
  | .add, .lst a, .lst b => if a.length + b.length ≤ line then some (.fr (.ol (a ++ b))) else none
  | .add, .tup a, .tup b => if a.length + b.length ≤ line then some (.p (.tup (a ++ b))) else none
  | .sub, .int i, .int j => some (.p (.int (i - j)))
  | .mul, .int i, .int j => if (-big < i ∧ i < big) ∨ (-big < j ∧ j < big) then some (.p (.int (i * j))) else none
  | .mul, .lst a, .int k => if -(2 ^ 62) ≤ k ∧ k < 2 ^ 62 ∧ a.length * k.toNat ≤ line then some (.fr (.ol (List.replicate k.toNat a).flatten)) else none
  | .mul, .tup a, .int k => if a.isEmpty = false ∧ 2 ≤ k ∧ k ≤ 1000 ∧ a.length ≤ 1000 then some (.p (.tup (List.replicate k.toNat a).flatten)) else none
  | .fdiv, .int i, .int j => if 0 < j ∧ j < 1073741824 then some (.p (.int (i / j))) else none
  | .mod, .int i, .int j => if 0 < j then some (.p (.int (i % j))) else none
  | .pow, .int i, .int j => if 0 ≤ j ∧ j ≤ 1000000 ∧ i.natAbs < 2 ^ 64 then some (.p (.int (i ^ j.toNat))) else none
  | _, _, _ => none
mutual
/-- == of data (no instances, no dicts) -/
def deq : D → D → Bool
  | .non, .non => true
  | .bl a, .bl b => a == b
  | .int i, .int j => i == j
  | .bl a, .int j => (if a then 1 else 0) == j
  | .int i, .bl b => i == (if b then 1 else 0)
  | .str a, .str b => a == b
  | .lst a, .lst b => deqs a b
  | .tup a, .tup b => deqs a b
  | _, _ => false
def deqs : List D → List D → Bool
  | [], [] => true
  | a :: l, b :: m => deq a b && deqs l m
  | _, _ => false
end
mutual
/-- plain data: no instances, no dicts -/
def plain : D → Bool
  | .lst l => plains l
  | .tup l => plains l
  | .dct _ => false
  | .ins _ _ => false
  | _ => true
def plains : List D → Bool
  | [] => true
  | d :: l => plain d && plains l
end
mutual
def dep : D → Nat
  | .lst l => deps l + 1
  | .tup l => deps l + 1
  | _ => 0
def deps : List D → Nat
  | [] => 0
  | d :: l => Nat.max (dep d) (deps l)
end
/-- may the two be compared by == -/
def eqOk (a b : D) : Bool := plain a && plain b && decide (Nat.min (dep a) (dep b) ≤ 40)
def inOk (a : D) (l : List D) : Bool := plain a && plains l && decide (Nat.min (deps l) (dep a) ≤ 40)
def inD (a : D) (l : List D) : Bool := l.any fun y => deq y a
def look (k : DK) : List (DK × D) → Option D
  | [] => none
  | (j, d) :: r => if j = k then some d else look k r
def hasK (k : DK) (l : List (DK × D)) : Bool := (look k l).isSome
def putD (l : List (DK × D)) (k : DK) (v : D) : List (DK × D) :=
  if l.any (fun p => decide (p.1 = k)) then l.map (fun p => if p.1 = k then (p.1, v) else p) else l ++ [(k, v)]
def keyOf : D → Option DK
  | .int i => some (.inl i)
  | .str l => some (.inr l)
  | _ => none
def isNon : D → Bool
  | .non => true
  | _ => false
def cop : Cq → D → D → Option Bool
  | .eq, a, b => if eqOk a b then some (deq a b) else none
  | .ne, a, b => if eqOk a b then some (!deq a b) else none
  | .lt, .int i, .int j => some (decide (i < j))
  | .le, .int i, .int j => some (decide (i ≤ j))
  | .gt, .int i, .int j => some (decide (j < i))
  | .ge, .int i, .int j => some (decide (j ≤ i))
  | .lt, .str i, .str j => some (decide (i < j))
  | .le, .str i, .str j => some (!decide (j < i))
  | .gt, .str i, .str j => some (decide (j < i))
  | .ge, .str i, .str j => some (!decide (i < j))
  | .is, a, .non => some (isNon a)
  | .isnt, a, .non => some (!isNon a)
  | .is, .bl a, .bl b => some (a == b)
  | .isnt, .bl a, .bl b => some (a != b)
  | .isin, a, .lst l => if inOk a l then some (inD a l) else none
  | .isin, a, .tup l => if inOk a l then some (inD a l) else none
  | .isin, .str [c], .str l => some (decide (c ∈ l))
  | .isin, k, .dct l => (keyOf k).map fun k => hasK k l
  | .notin, a, .lst l => if inOk a l then some (!inD a l) else none
  | .notin, a, .tup l => if inOk a l then some (!inD a l) else none
  | .notin, .str [c], .str l => some (!decide (c ∈ l))
  | .notin, k, .dct l => (keyOf k).map fun k => !hasK k l
  | _, _, _ => none
def tru : D → Option Bool
  | .non => some false
  | .bl b => some b
  | .int i => some (i != 0)
  | .str l => some (!l.isEmpty)
  | .lst l => some (!l.isEmpty)
  | .tup l => some (!l.isEmpty)
  | .dct l => some (!l.isEmpty)
  | .ins _ _ => none
/-- the place that an index means -/
def ixn (n : Nat) (i : Int) : Option Nat := if 0 ≤ i then (if i < n then some i.toNat else none) else if -(n : Int) ≤ i then some (i + n).toNat else none
def item : D → D → Option D
  | .lst l, .int i => (ixn l.length i).bind fun j => l[j]?
  | .tup l, .int i => (ixn l.length i).bind fun j => l[j]?
  | .str l, .int i => (ixn l.length i).bind fun j => (l[j]?).map fun c => .str [c]
  | .dct l, k => (keyOf k).bind fun k => look k l
  | _, _ => none
/-- a bound of a slice -/
def clip (n d : Nat) : Option Int → Nat
  | none => d
  | some v => if v < 0 then (v + (n : Int)).toNat else min v.toNat n
def cut {α : Type} (l : List α) (lo hi : Option Int) : List α := (l.drop (clip l.length 0 lo)).take (clip l.length l.length hi - clip l.length 0 lo)
def slice : D → Option Int → Option Int → Option Val
  | .lst l, lo, hi => some (.fr (.ol (cut l lo hi)))
  | .tup l, lo, hi => some (.p (.tup (cut l lo hi)))
  | .str l, lo, hi => some (.p (.str (cut l lo hi)))
  | _, _, _ => none
def isTy : D → Ty → Option Bool
  | .ins _ _, _ => none
  | _, .own _ => none
  | .int _, .int => some true
  | .bl _, .int => some true
  | .bl _, .bool => some true
  | .str _, .str => some true
  | .tup _, .tuple => some true
  | .lst _, .list => some true
  | .dct _, .dict => some true
  | _, _ => some false
def isTys (d : D) : List Ty → Option Bool
  | [] => some false
  | t :: r => match isTy d t with
    | some true => some true
    | some false => isTys d r
    | none => none
def allB : List D → Option Bool
  | [] => some true
  | .bl b :: l => (allB l).map fun c => b && c
  | _ => none
def anyB : List D → Option Bool
  | [] => some false
  | .bl b :: l => (anyB l).map fun c => b || c
  | _ => none
def intsD : List D → Option (List Int)
  | [] => some []
  | .int i :: l => (intsD l).map (i :: ·)
  | _ => none
def strsD : List D → Option (List (List Nat))
  | [] => some []
  | .str s :: l => (strsD l).map (s :: ·)
  | _ => none
def lenD : D → Option Nat
  | .lst l => some l.length
  | .tup l => some l.length
  | .str l => some l.length
  | _ => none
/-- built-ins on data -/
def dedI (ns : List Int) : List Int := ns.foldl (fun acc n => if acc.any (· == n) then acc else acc ++ [n]) []
def bfn : B1 → List D → Option Val
  | .len, [d] => (lenD d).map fun n => .p (.int n)
  | .int, [.int i] => some (.p (.int i))
  | .int, [.bl b] => some (.p (.int (if b then 1 else 0)))
  | .tuple, [.lst l] => some (.p (.tup l))
  | .tuple, [.tup l] => some (.p (.tup l))
  | .list, [.lst l] => some (.fr (.ol l))
  | .list, [.tup l] => some (.fr (.ol l))
  | .all, [.lst l] => (allB l).map fun b => .p (.bl b)
  | .any, [.lst l] => (anyB l).map fun b => .p (.bl b)
  | .sum, [.lst l] => (intsD l).map fun ns => .p (.int ns.sum)
  | .ord, [.str [c]] => some (.p (.int c))
  | .setlen, [.lst l] => (intsD l).bind fun ns => if ns.length ≤ 4000 then some (.p (.int (dedI ns).length)) else none
  | .min, [.int i, .int j] => some (.p (.int (if j < i then j else i)))
  | .max, [.int i, .int j] => some (.p (.int (if j > i then j else i)))
  | _, _ => none
/-- what a for walks: the values, the slots that are locked meanwhile -/
def seqOf : D → Option (List D)
  | .lst l => some l
  | .tup l => some l
  | .str l => some (l.map fun c => .str [c])
  | _ => none
def rngOf : List D → Option (List D)
  | [.int n] => if -(2 ^ 61) ≤ n ∧ n ≤ line then some ((List.range n.toNat).map fun k => .int (k : Nat)) else none
  | [.int a, .int b] => if -(2 ^ 61) ≤ a ∧ a ≤ 2 ^ 61 ∧ b - a ≤ line ∧ -(2 ^ 61) ≤ b ∧ b ≤ 2 ^ 61 then some ((List.range (b - a).toNat).map fun (k : Nat) => .int (a + (k : Int))) else none
  | _ => none
def enumF : Nat → List D → List D
  | _, [] => []
  | n, d :: l => .tup [.int n, d] :: enumF (n + 1) l
def zipF : List D → List D → List D
  | a :: l, b :: m => .tup [a, b] :: zipF l m
  | _, _ => []
def itOf : Ik → List D → Option (List D)
  | .seq, [d] => seqOf d
  | .rng, l => rngOf l
  | .enum, [.lst l] => some (enumF 0 l)
  | .enum, [.tup l] => some (enumF 0 l)
  | .zip, [.lst l, .lst m] => some (zipF l m)
  | .zip, [.tup l, .tup m] => some (zipF l m)
  | _, _ => none
/-- views among values: their slots -/
def vws : List Val → List Nat
  | [] => []
  | .vw i :: l => i :: vws l
  | _ :: l => vws l
def SS.lock (b : Bool) : SS → SS
  | .own x _ c => .own x b c
  | s => s
def SS.lk : SS → Bool
  | .own _ k _ => k
  | _ => false
def lockE (l : List Nat) (e : VE) : VE := l.foldl (fun e i => e.modify i (SS.lock true)) e
/-- the locks as they were in e0 -/
def unlockE (e0 : VE) (l : List Nat) (e : VE) : VE := l.foldl (fun e i => e.modify i (SS.lock ((e0[i]?).elim false SS.lk))) e
/-- may the slot be stored to -/
def SS.free : SS → Bool
  | .own true _ _ => false
  | .own _ true _ => false
  | _ => true
def putS (i : Nat) (s : SS) (e : VE) : Option VE := if (e[i]?).elim false SS.free = true then some (e.set i s) else none
mutual
def bindG : TG → D → VE → Option VE
  | .nm i, d, e => putS i (.dat d) e
  | .tp gs, .tup l, e => bindGs gs l e
  | .tp _, _, _ => none
def bindGs : List TG → List D → VE → Option VE
  | [], [], e => some e
  | g :: gs, d :: l, e => (bindG g d e).bind fun e => bindGs gs l e
  | _, _, _ => none
end
def wipeE (l : List Nat) (e : VE) : VE := l.foldl (fun e i => e.set i .un) e
/-- e behind a block whose own slots are l: those as they were ahead of it, in e0 -/
def backE (e0 : VE) (l : List Nat) (e : VE) : VE := l.foldl (fun e i => e.set i ((e0[i]?).getD .un)) e
def rds (e : VE) : List Val → Option (List D)
  | [] => some []
  | v :: l => (rd e v).bind fun d => (rds e l).map (d :: ·)
/-- the value as data that stays: an own object is never changed again -/
def fz (e : VE) : Val → Option (D × VE)
  | .p d => some (d, e)
  | .fr c => some (c.toD, e)
  | .vw i => match e[i]? with
    | some (.dat d) => some (d, e)
    | some (.own false false c) => some (c.toD, e.set i (.dat c.toD))
    | _ => none
def fzs : List Val → VE → Option (List D × VE)
  | [], e => some ([], e)
  | v :: l, e => (fz e v).bind fun p => (fzs l p.2).map fun q => (p.1 :: q.1, q.2)
/-- arguments handed to a def -/
def argOf (e : VE) : Val → Option Arg
  | .p d => some (.p d)
  | .fr c => some (.p c.toD)
  | .vw i => match e[i]? with
    | some (.dat d) => some (.p d)
    | some (.own _ k c) => some (.o k c)
    | _ => none
def argsOf (e : VE) : List Val → Option (List Arg)
  | [] => some []
  | v :: l => (argOf e v).bind fun a => (argsOf e l).map (a :: ·)
def SS.put (c : OC) : SS → SS
  | .own b k _ => .own b k c
  | s => s
/-- what lent objects hold behind the call -/
def putA : List Val → List Arg → VE → VE
  | .vw i :: l, .o _ c :: m, e => putA l m (e.modify i (SS.put c))
  | _ :: l, _ :: m, e => putA l m e
  | _, _, e => e
def Ret.val : Ret → Val
  | .p d => .p d
  | .fr c => .fr c
def callR (ce : CE) (f : Nat) (vs : List Val) (e : VE) : R Val :=
  if (vws vs).Nodup then
    match argsOf e vs with
    | some as => match ce.fn f as with
      | .ok r l => .ok r.val (putA vs l e)
      | .rz x l => .rz x (putA vs l e)
      | .no => .no
    | none => .no
  else .no
def ofO {α : Type} (o : Option α) (e : VE) : R α := match o with | some a => .ok a e | none => .no
@[simp] theorem ofO_some {α : Type} (a : α) (e : VE) : ofO (some a) e = .ok a e := rfl
@[simp] theorem ofO_none {α : Type} (e : VE) : ofO (none : Option α) e = .no := rfl
def ofP {α : Type} (o : Option (α × VE)) : R α := match o with | some p => .ok p.1 p.2 | none => .no
@[simp] theorem ofP_some {α : Type} (p : α × VE) : ofP (some p) = .ok p.1 p.2 := rfl
@[simp] theorem ofP_none {α : Type} : ofP (none : Option (α × VE)) = .no := rfl
def op1 {α : Type} (f : D → Option α) (x : Val) (e : VE) : R α := ofO ((rd e x).bind f) e
def op2 {α : Type} (f : D → D → Option α) (x y : Val) (e : VE) : R α := ofO ((rd e x).bind fun x => (rd e y).bind fun y => f x y) e
/-- methods of built-in types: the receiver, the arguments -/
def mfn (m : M1) (x : Val) (vs : List Val) (e : VE) : R Val :=
  match m, x, vs with
  | .append, .vw i, [v] => (ofP (fz e v)).bind fun d e => match e[i]? with
    | some (.own b false (.ol l)) => if l.length < line then .ok (.p .non) (e.set i (.own b false (.ol (l ++ [d])))) else .no
    | _ => .no
  | .extend, .vw i, [v] => match e[i]?, rd e v with
    | some (.own b false (.ol l)), some (.lst m) => if l.length + m.length ≤ line then .ok (.p .non) (e.set i (.own b false (.ol (l ++ m)))) else .no
    | _, _ => .no
  | .pop, .vw i, [] => match e[i]? with
    | some (.own b false (.ol l)) => match l.getLast? with
      | some d => .ok (.p d) (e.set i (.own b false (.ol l.dropLast)))
      | none => .no
    | _ => .no
  | _, _, _ => .no
/-- the type that has the method -/
def mOk : M1 → D → Option Unit
  | .append, .lst _ => some ()
  | .extend, .lst _ => some ()
  | .pop, .lst _ => some ()
  | _, _ => none
/-- a comprehension's turns -/
def lcF (f : D → VE → R (Option D)) : List D → VE → R (List D)
  | [], e => .ok [] e
  | d :: l, e => (f d e).bind fun o e => (lcF f l e).bind fun r e => .ok (o.elim r (· :: r)) e
def boolOf : D → Option Bool
  | .bl b => some b
  | _ => none
def negOf : D → Option Val
  | .int i => some (.p (.int (-i)))
  | _ => none
def partOf : D → Option Int
  | .int i => some i
  | _ => none
def short (p : List D × VE) : Option (List D × VE) := if p.1.length ≤ line then some p else none
def blV (b : Bool) : Val := .p (.bl b)
def mkD (ks : List DK) (ds : List D) : List (DK × D) := (ks.zip ds).foldl (fun acc kv => putD acc kv.1 kv.2) []

/-- what is walked: the values, the items -/
def itsOf (k : Ik) (vs : List Val) (e : VE) : R (List Val × List D) := ofO (((rds e vs).bind fun ds => itOf k ds).map fun its => (vs, its)) e
mutual
def ev (ce : CE) : T → VE → R Val
  | .var i, e => match e[i]? with
    | some (.dat d) => .ok (.p d) e
    | some (.own _ _ _) => .ok (.vw i) e
    | _ => .no
  | .int i, e => .ok (.p (.int i)) e
  | .bl b, e => .ok (.p (.bl b)) e
  | .non, e => .ok (.p .non) e
  | .str l, e => .ok (.p (.str l)) e
  | .con k, e => .ok (.p (ce.con k)) e
  | .bin o a b, e => (ev ce a e).bind fun x e => (ev ce b e).bind fun y e => op2 (bop o) x y e
  | .cmp o a b, e => (ev ce a e).bind fun x e => (ev ce b e).bind fun y e => (op2 (cop o) x y e).bind fun t e => .ok (blV t) e
  | .chn o p a b c, e => (ev ce a e).bind fun x e => (ev ce b e).bind fun y e => (op2 (cop o) x y e).bind fun t e =>
      if t = true then (ev ce c e).bind fun z e => (op2 (cop p) y z e).bind fun t e => .ok (blV t) e else .ok (blV false) e
  | .and a b, e => (ev ce a e).bind fun x e => (op1 boolOf x e).bind fun t e => if t = true then ev ce b e else .ok (blV false) e
  | .or a b, e => (ev ce a e).bind fun x e => (op1 boolOf x e).bind fun t e => if t = true then .ok (blV true) e else ev ce b e
  | .not a, e => (ev ce a e).bind fun x e => (op1 boolOf x e).bind fun t e => .ok (blV (!t)) e
  | .neg a, e => (ev ce a e).bind fun x e => op1 negOf x e
  | .ite c a b, e => (evT ce c e).bind fun t e => if t = true then ev ce a e else ev ce b e
  | .tup l, e => (evs ce l e).bind fun vs e => (ofP ((fzs vs e).bind short)).bind fun ds e => .ok (.p (.tup ds)) e
  | .lst l, e => (evs ce l e).bind fun vs e => (ofP ((fzs vs e).bind short)).bind fun ds e => .ok (.fr (.ol ds)) e
  | .dct ks l, e => (evs ce l e).bind fun vs e => (ofP (fzs vs e)).bind fun ds e => if ds.length ≤ 15 then .ok (.fr (.od (mkD ks ds))) e else .no
  | .ix a b, e => (ev ce a e).bind fun x e => (ev ce b e).bind fun y e => (op2 item x y e).bind fun d e => .ok (.p d) e
  | .sl a lo hi, e => (ev ce a e).bind fun x e => (evo ce lo e).bind fun l e => (evo ce hi e).bind fun h e => op1 (fun x => slice x l h) x e
  | .call f l, e => (evs ce l e).bind fun vs e => callR ce f vs e
  | .bi b l, e => (evs ce l e).bind fun vs e => ofO ((rds e vs).bind fun ds => bfn b ds) e
  | .mt m a l, e => (ev ce a e).bind fun x e => (op1 (mOk m) x e).bind fun _ e => (evs ce l e).bind fun vs e => mfn m x vs e
  | .isi a ts, e => (ev ce a e).bind fun x e => op1 (fun d => (isTys d ts).map blV) x e
  | .lc t g k l c own, e => ((evs ce l e).bind (itsOf k)).bind fun p e0 =>
      (lcF (fun d e => (ofO (bindG g d e) e).bind fun e' _ => (evc ce c e').bind fun b e => if b = true then (ev ce t e).bind fun v e => (ofP (fz e v)).bind fun d e => .ok (some d) (wipeE own e) else .ok none (wipeE own e)) p.2 (wipeE own (lockE (vws p.1) e0))).calm.bind fun r e =>
        if r.length ≤ line then .ok (.fr (.ol r)) (unlockE e0 (vws p.1) (backE e0 own e)) else .no
def evT (ce : CE) : T → VE → R Bool
  | .and a b, e => (evT ce a e).bind fun t e => if t = true then evT ce b e else .ok false e
  | .or a b, e => (evT ce a e).bind fun t e => if t = true then .ok true e else evT ce b e
  | .not a, e => (evT ce a e).bind fun t e => .ok (!t) e
  | t, e => (ev ce t e).bind fun x e => op1 tru x e
def evs (ce : CE) : List T → VE → R (List Val)
  | [], e => .ok [] e
  | t :: l, e => (ev ce t e).bind fun v e => (evs ce l e).bind fun r e => .ok (v :: r) e
def evo (ce : CE) : Option T → VE → R (Option Int)
  | none, e => .ok none e
  | some t, e => (ev ce t e).bind fun v e => (op1 partOf v e).bind fun i e => .ok (some i) e
def evc (ce : CE) : Option T → VE → R Bool
  | none, e => .ok true e
  | some t, e => evT ce t e
end

inductive Out where
  | nx (e : VE)
  | rt (r : Ret) (e : VE)
  | bk (e : VE)
  | ct (e : VE)
  | rz (x : XD) (e : VE)
  | no
def R.out {α : Type} (r : R α) (f : α → VE → Out) : Out :=
  match r with
  | .ok a e => f a e
  | .rz x e => .rz x e
  | .no => .no
@[simp] theorem R.out_ok {α : Type} (a : α) (e : VE) (f : α → VE → Out) : (R.ok a e).out f = f a e := rfl
@[simp] theorem R.out_rz {α : Type} (x : XD) (e : VE) (f : α → VE → Out) : (R.rz x e : R α).out f = .rz x e := rfl
@[simp] theorem R.out_no {α : Type} (f : α → VE → Out) : (R.no : R α).out f = .no := rfl
def Out.then (o : Out) (f : VE → Out) : Out :=
  match o with
  | .nx e => f e
  | o => o
@[simp] theorem Out.then_nx (e : VE) (f : VE → Out) : (Out.nx e).then f = f e := rfl
@[simp] theorem Out.then_rt (r : Ret) (e : VE) (f : VE → Out) : (Out.rt r e).then f = .rt r e := rfl
@[simp] theorem Out.then_rz (r : XD) (e : VE) (f : VE → Out) : (Out.rz r e).then f = .rz r e := rfl
@[simp] theorem Out.then_bk (e : VE) (f : VE → Out) : (Out.bk e).then f = .bk e := rfl
@[simp] theorem Out.then_ct (e : VE) (f : VE → Out) : (Out.ct e).then f = .ct e := rfl
@[simp] theorem Out.then_no (f : VE → Out) : (Out.no).then f = .no := rfl
def ofX (o : Option VE) : Out := match o with | some e => .nx e | none => .no
@[simp] theorem ofX_some (e : VE) : ofX (some e) = .nx e := rfl
@[simp] theorem ofX_none : ofX none = .no := rfl
/-- a value stored at a name -/
def setV (i : Nat) (v : Val) (e : VE) : Option VE :=
  match v with
  | .p d => putS i (.dat d) e
  | .fr c => putS i (.own false false c) e
  | .vw j => (fz e (.vw j)).bind fun p => putS i (.dat p.1) p.2
/-- views told as data -/
def fzV (e : VE) : Val → Option (Val × VE)
  | .vw j => (fz e (.vw j)).map fun p => (.p p.1, p.2)
  | v => some (v, e)
def fzVs : List Val → VE → Option (List Val × VE)
  | [], e => some ([], e)
  | v :: l, e => (fzV e v).bind fun p => (fzVs l p.2).map fun q => (p.1 :: q.1, q.2)
def setVs : List Nat → List Val → VE → Option VE
  | [], [], e => some e
  | i :: is, v :: vs, e => (setV i v e).bind fun e => setVs is vs e
  | _, _, _ => none
def retV (v : Val) (e : VE) : Out :=
  match v with
  | .p d => .rt (.p d) e
  | .fr c => .rt (.fr c) e
  | .vw i => match e[i]? with
    | some (.dat d) => .rt (.p d) e
    | some (.own false false c) => .rt (.fr c) (e.set i .un)
    | _ => .no
/-- o[i] = v -/
def subV (x y v : Val) (e : VE) : Option VE :=
  match x with
  | .vw i => (fz e v).bind fun p => match p.2[i]?, rd p.2 y with
    | some (.own b false (.ol l)), some (.int k) => (ixn l.length k).map fun j => p.2.set i (.own b false (.ol (l.set j p.1)))
    | some (.own b false (.od l)), some k => (keyOf k).bind fun k => if l.length < line then some (p.2.set i (.own b false (.od (putD l k p.1)))) else none
    | _, _ => none
  | _ => none
def forF (g : TG) (b : VE → Out) : List D → VE → Out
  | [], e => .nx e
  | d :: l, e => match bindG g d e with
    | none => .no
    | some e => match b e with
      | .nx e => forF g b l e
      | .ct e => forF g b l e
      | .bk e => .nx e
      | o => o
def whF (c : VE → R Bool) (b : VE → Out) : Nat → VE → Out
  | 0, _ => .no
  | n + 1, e => (c e).out fun t e => if t = true then (match b e with
      | .nx e => whF c b n e
      | .ct e => whF c b n e
      | .bk e => .nx e
      | o => o) else .nx e
def Out.unlock (e0 : VE) (l : List Nat) : Out → Out
  | .nx e => .nx (unlockE e0 l e)
  | .rt r e => .rt r (unlockE e0 l e)
  | .bk e => .bk (unlockE e0 l e)
  | .ct e => .ct (unlockE e0 l e)
  | .rz x e => .rz x (unlockE e0 l e)
  | .no => .no
mutual
def ex (ce : CE) : S → VE → Out
  | .set i t, e => (ev ce t e).out fun v e => ofX (setV i v e)
  | .par is ts, e => (evs ce ts e).out fun vs e => (ofP (fzVs vs e)).out fun vs e => ofX (setVs is vs e)
  | .unp g t, e => (ev ce t e).out fun v e => (ofP (fz e v)).out fun d e => ofX (bindG g d e)
  | .sub a i t, e => (ev ce t e).out fun v e => (ev ce a e).out fun x e => (ev ce i e).out fun y e => ofX (subV x y v e)
  | .exp t, e => (ev ce t e).out fun _ e => .nx e
  | .ret t, e => (ev ce t e).out fun v e => retV v e
  | .retn, e => .rt (.p .non) e
  | .ifs c a b, e => (evT ce c e).out fun t e => if t = true then exs ce a e else exs ce b e
  | .fors g k l b, e => ((evs ce l e).bind (itsOf k)).out fun p e0 => (forF g (exs ce b) p.2 (lockE (vws p.1) e0)).unlock e0 (vws p.1)
  | .whl n c b, e => whF (evT ce c) (exs ce b) n e
  | .brk, e => .bk e
  | .cnt, e => .ct e
  | .pas, e => .nx e
  | .bad, _ => .no
def exs (ce : CE) : List S → VE → Out
  | [], e => .nx e
  | s :: l, e => (ex ce s e).then (exs ce l)
end
/-- the arguments as they stand behind a call -/
def backA : List Arg → VE → Option (List Arg)
  | [], _ => some []
  | a :: l, e => match e with
    | [] => none
    | s :: e => match a with
      | .p d => (backA l e).map (.p d :: ·)
      | .o k _ => match s with
        | .own true _ c => (backA l e).map (.o k c :: ·)
        | _ => none
def runO (as : List Arg) : Out → RF
  | .nx e => match backA as e with | some l => .ok (.p .non) l | none => .no
  | .rt r e => match backA as e with | some l => .ok r l | none => .no
  | .rz x e => match backA as e with | some l => .rz x l | none => .no
  | _ => .no
/-- a def of n slots -/
def runF (ce : CE) (n : Nat) (b : List S) (as : List Arg) : RF := runO as (exs ce b (as.map Arg.ss ++ List.replicate (n - as.length) .un))
end Vd
/-! Vd3: what a value stands for; steps of expressions. -/
namespace Vd
open PySem PySem.Spec PyProof.Rows L2

/-- what an expression may turn of a slot -/
inductive SR : SS → SS → Prop where
  | same (s : SS) : SR s s
  | turn (b : Bool) (c c' : OC) : SR (.own b false c) (.own b false c')
  | frz (c : OC) (d : D) : SR (.own false false c) (.dat d)
theorem SR.trans {s t u : SS} (p : SR s t) (q : SR t u) : SR s u := by
  cases p with
  | same => exact q
  | turn b c c' =>
    cases q with
    | same => exact .turn b c c'
    | turn _ _ c2 => exact .turn b c c2
    | frz _ d => exact .frz c d
  | frz c d =>
    cases q with
    | same => exact .frz c d
theorem SR.own {s : SS} {b k : Bool} {c : OC} (p : SR s (.own b k c)) : ∃ c0, s = .own b k c0 := by
  cases p with
  | same => exact ⟨c, rfl⟩
  | turn _ c0 _ => exact ⟨c0, rfl⟩
structure EK (e e' : VE) : Prop where
  len : e'.length = e.length
  at' : ∀ (i : Nat) (s : SS), e[i]? = some s → ∃ s', e'[i]? = some s' ∧ SR s s'
theorem EK.refl (e : VE) : EK e e := ⟨rfl, fun _ s h => ⟨s, h, .same s⟩⟩
theorem EK.trans {e e1 e2 : VE} (p : EK e e1) (q : EK e1 e2) : EK e e2 where
  len := q.len.trans p.len
  at' := fun i s h => by
    obtain ⟨s1, h1, r1⟩ := p.at' i s h
    obtain ⟨s2, h2, r2⟩ := q.at' i s1 h1
    exact ⟨s2, h2, r1.trans r2⟩
theorem EK.from {e e' : VE} (p : EK e e') {i : Nat} {s' : SS} (h : e'[i]? = some s') : ∃ s, e[i]? = some s ∧ SR s s' := by
  have hl : i < e.length := by
    rw [← p.len]
    exact (List.getElem?_eq_some_iff.mp h).1
  obtain ⟨s1, h1, r1⟩ := p.at' i e[i] (List.getElem?_eq_getElem hl)
  rw [h] at h1; cases h1
  exact ⟨_, List.getElem?_eq_getElem hl, r1⟩
theorem EK.own {e e' : VE} (p : EK e e') {i : Nat} {b k : Bool} {c : OC} (h : e'[i]? = some (SS.own b k c)) : ∃ c0, e[i]? = some (SS.own b k c0) := by
  obtain ⟨s, h1, r⟩ := p.from h
  obtain ⟨c0, rfl⟩ := r.own
  exact ⟨c0, h1⟩
theorem EK.ow {g : Gx} {e e' : VE} {σ : L2.St} (p : EK e e') {a : Addr} (h : Ow g e' σ a) : Ow g e σ a := by
  rcases h with h | ⟨i, b, k, c, h1, h2⟩
  · exact .inl h
  · obtain ⟨c0, h0⟩ := p.own h1
    exact .inr ⟨i, b, k, c0, h0, h2⟩
/-- one slot turned -/
theorem EK.set {e : VE} {i : Nat} {s s' : SS} (h : e[i]? = some s) (r : SR s s') : EK e (e.set i s') where
  len := List.length_set
  at' := fun j u hj => by
    by_cases q : i = j
    · subst q
      rw [h] at hj; cases hj
      exact ⟨s', by rw [List.getElem?_set_self (List.getElem?_eq_some_iff.mp h).1], r⟩
    · exact ⟨u, by rw [List.getElem?_set_ne q]; exact hj, .same u⟩
structure PK (g : Gx) (σ : L2.St) (Hb H : Hp) (e : VE) (Hb' H' : Hp) (e' : VE) : Prop where
  vp : VP (Ow g e σ) Hb H (Ow g e' σ) Hb' H'
  st : VS g Hb' e' σ H'
  ek : EK e e'
theorem PK.refl {g : Gx} {σ : L2.St} {Hb H : Hp} {e : VE} (I : VS g Hb e σ H) : PK g σ Hb H e Hb H e := ⟨.refl, I, .refl e⟩
theorem PK.trans {g : Gx} {σ : L2.St} {Hb H Hb1 H1 Hb2 H2 : Hp} {e e1 e2 : VE} (p : PK g σ Hb H e Hb1 H1 e1) (q : PK g σ Hb1 H1 e1 Hb2 H2 e2) : PK g σ Hb H e Hb2 H2 e2 := ⟨p.vp.trans q.vp, q.st, p.ek.trans q.ek⟩

/-! ### what a value stands for -/
def RV (g : Gx) (H0 Hb H : Hp) (e : VE) (σ : L2.St) : Val → V → Prop
  | .p d, x => Rp g Hb d x
  | .vw i, x => σ[i]? = some (some x) ∧ ∃ s, e[i]? = some s ∧ s ≠ .un
  | .fr c, x => ∃ a, x = .ref a ∧ H0 a = none ∧ Hb a = none ∧ RO g Hb H c a ∧ ¬ Ow g e σ a
theorem RV.step {g : Gx} {σ : L2.St} {H0 Hb H Hb1 H1 : Hp} {e e1 : VE} {v : Val} {x : V} (r : RV g H0 Hb H e σ v x) (p : PK g σ Hb H e Hb1 H1 e1) : RV g H0 Hb1 H1 e1 σ v x := by
  cases v with
  | p d => exact Rp.mono p.vp.b d x r
  | vw i =>
    obtain ⟨h1, s, h2, n⟩ := r
    obtain ⟨s', h3, q⟩ := p.ek.at' i s h2
    refine ⟨h1, s', h3, ?_⟩
    rintro rfl
    cases q
    exact n rfl
  | fr c =>
    obtain ⟨a, rfl, h0, hb, ro, no⟩ := r
    obtain ⟨o, ho, _⟩ := ro.there
    refine ⟨a, rfl, h0, ?_, ro.mono p.vp.b fun o h => p.vp.k a o h no, fun z => no (p.ek.ow z)⟩
    cases q : Hb1 a with
    | none => rfl
    | some u =>
      rcases p.vp.n a u q with z | z | z
      · rw [hb] at z; cases z
      · rw [ho] at z; cases z
      · exact absurd z no
/-- the start may be earlier -/
theorem RV.early {g : Gx} {σ : L2.St} {H0 H0' Hb H : Hp} {e : VE} {v : Val} {x : V} (r : RV g H0 Hb H e σ v x) (h : ∀ a, H0 a = none → H0' a = none) : RV g H0' Hb H e σ v x := by
  cases v with
  | fr c =>
    obtain ⟨a, rfl, h0, q⟩ := r
    exact ⟨a, rfl, h a h0, q⟩
  | p d => exact r
  | vw i => exact r
/-- read now: parts by what is kept, itself by the heap -/
def RR (g : Gx) (Hb H : Hp) : D → V → Prop
  | .lst l, x => ∃ a vs, x = .ref a ∧ SqL g.K H a vs ∧ Rps g Hb l vs
  | .dct l, x => ∃ a vs, x = .ref a ∧ H a = some (.dK vs) ∧ Rpk g Hb l vs
  | .ins c fs, x => ∃ a dx vs, x = .ref a ∧ H a = some (.ins (g.ca c) dx vs) ∧ Rpf g Hb fs vs
  | d, x => Rp g Hb d x
theorem RR.of {g : Gx} {Hb H : Hp} (e : Ex Hb H) {d : D} {x : V} (h : Rp g Hb d x) : RR g Hb H d x := by
  cases d with
  | lst l => obtain ⟨a, vs, rfl, h1, h2⟩ := h; exact ⟨a, vs, rfl, e.sql h1, h2⟩
  | dct l => obtain ⟨a, vs, rfl, h1, h2⟩ := h; exact ⟨a, vs, rfl, e _ _ h1, h2⟩
  | ins c l => obtain ⟨a, dx, vs, rfl, h1, h2⟩ := h; exact ⟨a, dx, vs, rfl, e _ _ h1, h2⟩
  | _ => exact h
theorem RR.ofO {g : Gx} {Hb H : Hp} {c : OC} {a : Addr} (h : RO g Hb H c a) : RR g Hb H c.toD (.ref a) := by
  cases c with
  | ol l => obtain ⟨vs, h1, h2⟩ := h; exact ⟨a, vs, rfl, .of h1, h2⟩
  | od l => obtain ⟨vs, h1, h2⟩ := h; exact ⟨a, vs, rfl, h1, h2⟩
  | oi c l => obtain ⟨dx, vs, h1, h2⟩ := h; exact ⟨a, dx, vs, rfl, h1, h2⟩
theorem RR.rp {g : Gx} {Hb H : Hp} (e : Ex Hb H) {d : D} {x : V} (h : RR g Hb H d x) : Rp g H d x := by
  cases d with
  | lst l => obtain ⟨a, vs, rfl, h1, h2⟩ := h; exact ⟨a, vs, rfl, h1, Rps.mono e l vs h2⟩
  | dct l => obtain ⟨a, vs, rfl, h1, h2⟩ := h; exact ⟨a, vs, rfl, h1, Rpk.mono e l vs h2⟩
  | ins c l => obtain ⟨a, dx, vs, rfl, h1, h2⟩ := h; exact ⟨a, dx, vs, rfl, h1, Rpf.mono e l vs h2⟩
  | _ => exact Rp.mono e _ x h
theorem RV.read {g : Gx} {σ : L2.St} {H0 Hb H : Hp} {e : VE} {v : Val} {x : V} {d : D} (I : VS g Hb e σ H) (r : RV g H0 Hb H e σ v x) (h : rd e v = some d) : RR g Hb H d x := by
  cases v with
  | p d' =>
    cases h
    exact .of I.ex r
  | vw i =>
    obtain ⟨h1, s, h2, n⟩ := r
    have h' : (e[i]?).bind SS.rd = some d := h
    rw [h2] at h'
    cases s with
    | un => exact absurd rfl n
    | dat d' =>
      cases h'
      obtain ⟨v, e1, r1⟩ := I.dat i _ h2
      rw [h1] at e1; cases e1
      exact .of I.ex r1
    | own b k c =>
      cases h'
      obtain ⟨a, e1, _, r1⟩ := I.own i b k c h2
      rw [h1] at e1; cases e1
      exact .ofO r1
  | fr c =>
    cases h
    obtain ⟨a, rfl, _, _, ro, _⟩ := r
    exact .ofO ro

/-! ### results -/
abbrev WD := Value → Option Addr → Hp → Prop
/-- the data of an exception -/
def RX (g : Gx) (Hb H : Hp) (x : XD) (cls : Value) (d : Option Addr) : Prop := ∃ dx kfs, cls = .ref (g.ca x.c) ∧ d = some dx ∧ H dx = some (.xd kfs) ∧ Rpf g Hb x.fs kfs
/-- a result of any kind α, told by P -/
def CA {α β : Type} (P : Hp → Hp → Hp → VE → α → β → Prop) (g : Gx) (W : WX) (σ : L2.St) (Hb H : Hp) (e : VE) (r : R α) (Q : β → Hp → Prop) : Prop :=
  match r with
  | .ok v e' => ∀ x Hb' H', PK g σ Hb H e Hb' H' e' → P H Hb' H' e' v x → Q x H'
  | .rz xd e' => ∀ cls d Hb' H', PK g σ Hb H e Hb' H' e' → RX g Hb' H' xd cls d → W cls d σ H'
  | .no => False
def Early {α β : Type} (P : Hp → Hp → Hp → VE → α → β → Prop) : Prop := ∀ H0 H0' Hb H e v x, (∀ a, H0 a = none → H0' a = none) → P H0 Hb H e v x → P H0' Hb H e v x
abbrev PV (g : Gx) (σ : L2.St) : Hp → Hp → Hp → VE → Val → V → Prop := fun H0 Hb H e => RV g H0 Hb H e σ
abbrev PQ {α : Type} : Hp → Hp → Hp → VE → α → α → Prop := fun _ _ _ _ a b => b = a
/-- lists of values: the new objects among them are unlike -/
def RVs (g : Gx) (H0 Hb H : Hp) (e : VE) (σ : L2.St) : List Val → List V → Prop
  | [], xs => xs = []
  | v :: l, xs => ∃ x r, xs = x :: r ∧ RV g H0 Hb H e σ v x ∧ RVs g H0 Hb H e σ l r ∧ ∀ c, v = Val.fr c → ∀ (j : Nat) c', l[j]? = some (Val.fr c') → r[j]? ≠ some x
abbrev PL (g : Gx) (σ : L2.St) : Hp → Hp → Hp → VE → List Val → List V → Prop := fun H0 Hb H e => RVs g H0 Hb H e σ
theorem RVs.early {g : Gx} {σ : L2.St} {H0 H0' Hb H : Hp} {e : VE} (k : ∀ a, H0 a = none → H0' a = none) : ∀ {vs : List Val} {xs : List V}, RVs g H0 Hb H e σ vs xs → RVs g H0' Hb H e σ vs xs
  | [], _, h => h
  | v :: l, _, h => by
    obtain ⟨x, r, rfl, h1, h2, h3⟩ := h
    exact ⟨x, r, rfl, h1.early k, RVs.early k h2, h3⟩
theorem RVs.step {g : Gx} {σ : L2.St} {H0 Hb H Hb1 H1 : Hp} {e e1 : VE} (p : PK g σ Hb H e Hb1 H1 e1) : ∀ {vs : List Val} {xs : List V}, RVs g H0 Hb H e σ vs xs → RVs g H0 Hb1 H1 e1 σ vs xs
  | [], _, h => h
  | v :: l, _, h => by
    obtain ⟨x, r, rfl, h1, h2, h3⟩ := h
    exact ⟨x, r, rfl, h1.step p, RVs.step p h2, h3⟩
theorem early_V {g : Gx} {σ : L2.St} : Early (PV g σ) := fun _ _ _ _ _ _ _ k r => RV.early r k
theorem early_L {g : Gx} {σ : L2.St} : Early (PL g σ) := fun _ _ _ _ _ _ _ k r => RVs.early k r
theorem early_Q {α : Type} : Early (@PQ α) := fun _ _ _ _ _ _ _ _ r => r
section
variable {α β γ δ : Type} {Pa : Hp → Hp → Hp → VE → α → β → Prop} {Pb : Hp → Hp → Hp → VE → γ → δ → Prop} {g : Gx} {W : WX} {σ : L2.St} {Hb H Hb1 H1 : Hp} {e e1 : VE}
/-- a step ahead -/
theorem CA.shift {r : R α} {Q : β → Hp → Prop} (hP : Early Pa) (p : PK g σ Hb H e Hb1 H1 e1) (h : CA Pa g W σ Hb H e r Q) : CA Pa g W σ Hb1 H1 e1 r Q := by
  cases r with
  | ok v e' => exact fun x Hb' H' pk rv => h x Hb' H' (p.trans pk) (hP _ _ _ _ _ _ _ p.vp.t rv)
  | rz xd e' => exact fun cls d Hb' H' pk rx => h cls d Hb' H' (p.trans pk) rx
  | no => exact h
theorem CA.bind {r : R α} {f : α → VE → R γ} {Q : δ → Hp → Prop} {Q' : β → Hp → Prop} (hP : Early Pb) (h : CA Pb g W σ Hb H e (r.bind f) Q)
    (k : ∀ v e1 x Hb1 H1, PK g σ Hb H e Hb1 H1 e1 → Pa H Hb1 H1 e1 v x → CA Pb g W σ Hb1 H1 e1 (f v e1) Q → Q' x H1) : CA Pa g W σ Hb H e r Q' := by
  cases r with
  | ok v e1 => exact fun x Hb1 H1 pk rv => k v e1 x Hb1 H1 pk rv (CA.shift hP pk h)
  | rz xd e' => exact h
  | no => exact h
/-- an option that is there -/
theorem CA.ofO {o : Option α} {f : α → VE → R γ} {Q : δ → Hp → Prop} (h : CA Pb g W σ Hb H e ((Vd.ofO o e).bind f) Q) : ∃ a, o = some a ∧ CA Pb g W σ Hb H e (f a e) Q := by
  cases o with
  | none => exact h.elim
  | some a => exact ⟨a, rfl, h⟩
theorem CA.ofO' {o : Option α} {Q : β → Hp → Prop} (h : CA Pa g W σ Hb H e (Vd.ofO o e) Q) : ∃ a, o = some a ∧ ∀ x Hb' H', PK g σ Hb H e Hb' H' e → Pa H Hb' H' e a x → Q x H' := by
  cases o with
  | none => exact h.elim
  | some a => exact ⟨a, rfl, h⟩
theorem CA.op1 {f' : D → Option α} {v : Val} {f : α → VE → R γ} {Q : δ → Hp → Prop} (h : CA Pb g W σ Hb H e ((Vd.op1 f' v e).bind f) Q) : ∃ d a, rd e v = some d ∧ f' d = some a ∧ CA Pb g W σ Hb H e (f a e) Q := by
  obtain ⟨a, h1, h2⟩ := CA.ofO h
  cases q : rd e v with
  | none => rw [q] at h1; cases h1
  | some d => rw [q] at h1; exact ⟨d, a, rfl, h1, h2⟩
theorem CA.op1' {f' : D → Option α} {v : Val} {Q : β → Hp → Prop} (h : CA Pa g W σ Hb H e (Vd.op1 f' v e) Q) : ∃ d a, rd e v = some d ∧ f' d = some a ∧ ∀ x Hb' H', PK g σ Hb H e Hb' H' e → Pa H Hb' H' e a x → Q x H' := by
  obtain ⟨a, h1, h2⟩ := CA.ofO' h
  cases q : rd e v with
  | none => rw [q] at h1; cases h1
  | some d => rw [q] at h1; exact ⟨d, a, rfl, h1, h2⟩
theorem CA.op2 {f' : D → D → Option α} {v w : Val} {f : α → VE → R γ} {Q : δ → Hp → Prop} (h : CA Pb g W σ Hb H e ((Vd.op2 f' v w e).bind f) Q) : ∃ d d' a, rd e v = some d ∧ rd e w = some d' ∧ f' d d' = some a ∧ CA Pb g W σ Hb H e (f a e) Q := by
  obtain ⟨a, h1, h2⟩ := CA.ofO h
  cases q : rd e v with
  | none => rw [q] at h1; cases h1
  | some d =>
    cases q' : rd e w with
    | none => rw [q, q'] at h1; cases h1
    | some d' => rw [q, q'] at h1; exact ⟨d, d', a, rfl, rfl, h1, h2⟩
theorem CA.op2' {f' : D → D → Option α} {v w : Val} {Q : β → Hp → Prop} (h : CA Pa g W σ Hb H e (Vd.op2 f' v w e) Q) : ∃ d d' a, rd e v = some d ∧ rd e w = some d' ∧ f' d d' = some a ∧ ∀ x Hb' H', PK g σ Hb H e Hb' H' e → Pa H Hb' H' e a x → Q x H' := by
  obtain ⟨a, h1, h2⟩ := CA.ofO' h
  cases q : rd e v with
  | none => rw [q] at h1; cases h1
  | some d =>
    cases q' : rd e w with
    | none => rw [q, q'] at h1; cases h1
    | some d' => rw [q, q'] at h1; exact ⟨d, d', a, rfl, rfl, h1, h2⟩
end

/-! ### an expression, a test, arguments: sound against what they compute -/
def tW (X : Cx) (e : Expr) : TE := fun σ H Q => ∀ pins s, Inv X pins σ H s → wpAny (model X.prog X.w) X.A (eval e X.env) (EP X pins σ Q) X.xe s
theorem pe_W (X : Cx) (e : Expr) : PE X e (tW X e) := ⟨fun pins s _ _ _ I h => h pins s I⟩
theorem tW_of {X : Cx} {e : Expr} {t : TE} (h : PE X e t) {σ : L2.St} {H : Hp} {Q : VK} (q : t σ H Q) : tW X e σ H Q := fun pins s I => h.run pins s σ H Q I q
def tWT (X : Cx) (e : Expr) : TT := fun σ H Q => ∀ pins s, Inv X pins σ H s → wpAny (model X.prog X.w) X.A (isTrue e X.env (eval e X.env)) (TP X pins σ Q) X.xe s
theorem pt_W (X : Cx) (e : Expr) : PT X e (tWT X e) := ⟨fun pins s _ _ _ I h => h pins s I⟩
theorem tWT_of {X : Cx} {e : Expr} {t : TT} (h : PT X e t) {σ : L2.St} {H : Hp} {Q : Bool → Hp → Prop} (q : t σ H Q) : tWT X e σ H Q := fun pins s I => h.run pins s σ H Q I q
def tWA (X : Cx) (es : List Expr) : TA := fun σ H Q => ∀ (pos : Pos) pins s, Inv X pins σ H s → wpAny (model X.prog X.w) X.A (spliced (backTo pos (starEach es X.env))) (AP X pins σ Q) X.xe s
theorem pa_W (X : Cx) (es : List Expr) : PA X es (tWA X es) := ⟨fun pos pins s _ _ _ I h => h pos pins s I⟩
theorem tWA_of {X : Cx} {es : List Expr} {t : TA} (h : PA X es t) {σ : L2.St} {H : Hp} {Q : List V → Hp → Prop} (q : t σ H Q) : tWA X es σ H Q := fun pos pins s I => h.run pos pins s σ H Q I q
def SE (g : Gx) (X : Cx) (W : WX) (x : Expr) (m : VE → R Val) : Prop := ∀ e σ Hb H (Q : VK), VS g Hb e σ H → CA (PV g σ) g W σ Hb H e (m e) Q → tW X x σ H Q
def ST (g : Gx) (X : Cx) (W : WX) (x : Expr) (m : VE → R Bool) : Prop := ∀ e σ Hb H (Q : Bool → Hp → Prop), VS g Hb e σ H → CA PQ g W σ Hb H e (m e) Q → tWT X x σ H Q
def SA (g : Gx) (X : Cx) (W : WX) (xs : List Expr) (m : VE → R (List Val)) : Prop := ∀ e σ Hb H (Q : List V → Hp → Prop), VS g Hb e σ H → CA (PL g σ) g W σ Hb H e (m e) Q → tWA X xs σ H Q
/-- a two-place operation as it is -/
def rW (X : Cx) (f : Value → Value → Sem Value) : R2 := fun x y H Q => ∀ pins s σ v u, Inv X pins σ H s → RelV x v → RelV y u → wpAny (model X.prog X.w) X.A (f v u) (EP X pins σ Q) X.xe s
theorem op_W (X : Cx) (f : Value → Value → Sem Value) : OpR X f (rW X f) := fun pins s σ H x y v u Q I rx ry h => h pins s σ v u I rx ry
theorem rW_of {X : Cx} {f : Value → Value → Sem Value} {r : R2} (h : OpR X f r) {x y : V} {H : Hp} {Q : VK} (q : r x y H Q) : rW X f x y H Q := fun pins s σ v u I rx ry => h pins s σ H x y v u Q I rx ry q
/-- what the context must have -/
structure Good (g : Gx) (kk : Nat) (X : Cx) (W : WX) : Prop where
  hK : X.K = g.K
  nd : X.N.Nodup
  calm : X.calm = true
  tk : Takes X W
  rm : Room kk X.A
end Vd
/-! Vd3b: +, * and extend with lists that are read only. -/
namespace Vd
open PySem PySem.Spec PyProof.Rows L2
theorem ext_any (l b : Addr) (xs ys : Array Value) (n m : Nat) (dd : Option Addr) (sl : Array (Option Value)) (h0 : ¬(!xs.isEmpty && Builtin.List.listTooLong (xs.size + ys.size)) = true) (h1 : xs.size ≤ sizeLine) (h2 : xs.size + ys.size ≤ sizeLine + 1) :
    Meets (Builtin.«list.extend» ⟨[.ref l, .ref b], []⟩) (fun _ R s => s.heap.get? l = some { cls := .type "list", dict := none, data := .seq xs n, slots := #[] } ∧ s.heap.get? b = some { cls := .type "list", dict := dd, data := .seq ys m, slots := sl } ∧ R (.ok (.ret Value.none)) { s with heap := s.heap.update l (Obj.mapSeq fun x => x ++ ys), toks := s.toks }) :=
  .of_wp fun prog w A R s h => by
    obtain ⟨hp, g, d, tk, os⟩ := s
    obtain ⟨hl, hb, h⟩ := h
    have f1 := AutoSeq1.idx_int
    have f2 := AutoSeq1.sub_tuple_tuple
    have f3 := AutoSeq1.sub_list_list
    have f4 := AutoSeq1.sub_tuple_list
    have f5 := AutoSeq1.sub_list_tuple
    have hz' : (xs ++ ys).size ≤ sizeLine + 1 := by rw [Array.size_append]; exact h2
    wp_walk using (wpAny_updateSeq hl rfl (hz := h1) (_hz' := hz')), wpAny_loadPart' hl, wpAny_loadPart' hb
    exact ⟨_, rfl, h⟩
theorem rmul_any (a : Int) (t : Tok) (l : Addr) (xs : Array Value) (n : Nat) (dd : Option Addr) (sl : Array (Option Value)) :
    Meets (Builtin.«int.__rmul__» ⟨[.int a t, .ref l], []⟩) (fun _ R s => s.heap.get? l = some { cls := .type "list", dict := dd, data := .seq xs n, slots := sl } ∧ R (.ok (.ret Value.notImplemented)) s) :=
  .of_wp fun prog w A R s h => by obtain ⟨hp, g, d, tk, os⟩ := s; obtain ⟨hl, h⟩ := h; wp_walk; exact ⟨_, rfl, h⟩
theorem mul_any (l : Addr) (xs : Array Value) (n : Nat) (dd : Option Addr) (sl : Array (Option Value)) (x : Int) (u : Tok) (h0 : ¬(!Builtin.List.listFitsIndex x) = true) (h1 : ¬xs.size * x.toNat > (2 ^ 63 - 1) / 8) (h2 : ¬Builtin.List.listTooLong (xs.size * x.toNat) = true) :
    Meets (Builtin.«list.__mul__» ⟨[.ref l, .int x u], []⟩) (fun _ R s => s.heap.get? l = some { cls := .type "list", dict := dd, data := .seq xs n, slots := sl } ∧ R (.ok (.ret (Value.ref s.heap.objs.size))) { s with heap := s.heap.push { cls := Value.type "list", data := Data.seq (List.foldl (fun x1 x2 => x1 ++ x2) #[] (List.replicate (if xs.isEmpty = true then 0 else x.toNat) xs)) }, toks := s.toks }) :=
  .of_wp fun prog w A R s h => by
    obtain ⟨hp, g, d, tk, os⟩ := s
    obtain ⟨hl, h⟩ := h
    have hsz := AutoListH.joined_fits h2
    wp_walk
    refine wpAny_ite_false (decide_eq_false (Nat.not_lt.mpr hsz)) ?_
    wp_walk
    exact ⟨_, rfl, h⟩
section
variable {X : Cx}
theorem op_catL : OpR X (binaryOp .Add) (fun x y H Q => ∃ l b xs zs, x = .ref l ∧ y = .ref b ∧ SqL X.K H l xs ∧ SqL X.K H b zs ∧ xs.length + zs.length ≤ sizeLine ∧ ∀ p, H p = none → Q (.ref p) (upd H p (.lst (xs ++ zs)))) := by
  intro pins s σ H x y v u Q I rx ry h
  obtain ⟨l, b, xs, zs, rfl, rfl, hH, hB, hz, q⟩ := h
  cases rx
  cases ry
  obtain ⟨its, r, ⟨⟨c1, d1, a1, s1⟩, n1, e1, k1, k2, k3⟩, z1⟩ := I.list hH
  obtain ⟨its2, r2, ⟨⟨c2, d2, a2, s2⟩, n2, e2, k4, k5, k6⟩, z2⟩ := I.list hB
  simp only at k1 k2 k3 k4 k5 k6
  subst k1 k2 k3 k4 k5 k6
  have hl := r.length
  have hl2 := r2.length
  have ea : its.toArray ++ its2.toArray = (its ++ its2).toArray := by simp
  have t1 : s.TypeIs (.ref l) "list" := ⟨_, e1, rfl⟩
  have t2 : s.TypeIs (.ref b) "list" := ⟨_, e2, rfl⟩
  refine concat_meets t1 t2 noFill_list_add seq_list_add F.slot_list_add F.entry_list_add (F.args_list_add_2 _ _)
    (list_addW l b its.toArray its2.toArray n1 n2 none none s1 s2 (by rw [List.size_toArray, List.size_toArray]; omega)) ⟨e1, e2, ?_⟩
  rw [ea]
  exact ⟨.ref _, _, I.lnew (t' := s.toks) (r.append r2) (by rw [List.length_append]; omega), rfl, q _ I.fresh⟩
theorem op_repL : OpR X (binaryOp .Mult) (fun x y H Q => ∃ l k xs, x = .ref l ∧ y = .int k ∧ SqL X.K H l xs ∧ -(2 ^ 63) ≤ k ∧ k < 2 ^ 63 ∧ xs.length * k.toNat ≤ sizeLine ∧ ∀ p, H p = none → Q (.ref p) (upd H p (.lst (List.replicate k.toNat xs).flatten))) := by
  intro pins s σ H x y v u Q I rx ry h
  obtain ⟨l, k, xs, rfl, rfl, hH, h1, h2, hz, q⟩ := h
  cases rx
  obtain ⟨t, rfl⟩ := ry
  obtain ⟨its, r, ⟨⟨c1, d1, a1, s1⟩, n1, e, k1, k2, k3⟩, z1⟩ := I.list hH
  simp only at k1 k2 k3
  subst k1 k2 k3
  have hl := r.length
  have hlen : its.toArray.size * k.toNat ≤ sizeLine := by rw [List.size_toArray, ← hl]; exact hz
  have hcap : ¬ its.toArray.size * k.toNat > (2 ^ 63 - 1) / 8 := by
    have : (sizeLine : Nat) ≤ (2 ^ 63 - 1) / 8 := by decide
    omega
  have hfit : ¬ (!Builtin.List.listFitsIndex k) = true := by
    rw [fitsIndex_both h1 h2]
    decide
  have hlong : ¬ Builtin.List.listTooLong (its.toArray.size * k.toNat) = true := by
    rw [notLongL hlen]
    decide
  have hnew : List.foldl (fun x1 x2 => x1 ++ x2) #[] (List.replicate (if its.toArray.isEmpty = true then 0 else k.toNat) its.toArray) = (List.replicate k.toNat its).flatten.toArray := by
    have f0 : ∀ m : Nat, List.foldl (fun x1 x2 => x1 ++ x2) #[] (List.replicate m its.toArray) = (List.replicate m its).flatten.toArray := fun m => by
      have z := foldl_rep its m []
      rw [List.nil_append] at z
      exact z
    rw [f0]
    cases its with
    | nil => simp
    | cons a r' => rw [if_neg (by simp)]
  have t1 : s.TypeIs (.ref l) "list" := ⟨_, e, rfl⟩
  refine wpAny_binaryOp_repeat_ref (T := "list") (U := "int") (by decide) t1 (fun s' => typeIs_int s' k t) noFill_list_mul F.fills_int_mul F.slot_int_rmul repeat_list F.slot_int_index.lookup
    (call_meets F.slot_int_rmul (typeIs_int s k t) F.entry_int_rmul (F.args_int_rmul_2 _ _) (rmul_any k t l its.toArray n1 none s1)
      ⟨e, rfl, t1, call_meets F.slot_list_mul t1 F.entry_list_mul (F.args_list_mul_2 _ _) (mul_any l its.toArray n1 none s1 k t hfit hcap hlong) ⟨e, ?_⟩⟩)
  rw [hnew]
  exact ⟨.ref _, _, I.lnew (t' := s.toks) (r.rep k.toNat) (by rw [PyProof.Rows.lm_len_rep_flat, Nat.mul_comm]; exact hz), rfl, q _ I.fresh⟩
theorem mt_extL : MtM X "list.extend" (fun x vs H Q => ∃ l b xs zs, x = .ref l ∧ vs = [.ref b] ∧ H l = some (.lst xs) ∧ SqL X.K H b zs ∧ xs.length + zs.length ≤ sizeLine ∧ Q .non (upd H l (.lst (xs ++ zs)))) := by
  intro pins s σ H x vs v us Q I rx rv h
  obtain ⟨l, b, xs, zs, rfl, rfl, hH, hB, hz, q⟩ := h
  cases rx
  obtain ⟨u, rfl, ru⟩ := rv.one
  cases ru
  obtain ⟨z, its, n, r, hl, e⟩ := I.lstM hH
  obtain ⟨its2, r2, ⟨⟨c2, d2, a2, s2⟩, n2, e2, k4, k5, k6⟩, z2⟩ := I.list hB
  simp only at k4 k5 k6
  subst k4 k5 k6
  have hl2 := r2.length
  have hsz : its.toArray.size + its2.toArray.size ≤ sizeLine := by rw [List.size_toArray, List.size_toArray]; omega
  have hlong : ¬ (!its.toArray.isEmpty && Builtin.List.listTooLong (its.toArray.size + its2.toArray.size)) = true := by
    rw [notLongL hsz, Bool.and_false]
    decide
  have t1 : s.TypeIs (.ref l) "list" := ⟨_, e, rfl⟩
  refine call_meets F.slot_list_extend t1 F.entry_list_extend (F.args_list_extend_2 _ _)
    (ext_any l b its.toArray its2.toArray n n2 none s2 hlong (by rw [List.size_toArray]; omega) (by omega)) ⟨e, e2, ?_⟩
  refine ⟨.non, _, I.lset (its' := its ++ its2) hH e (by simp) (r.append r2) ?_, rfl, q⟩
  rw [List.length_append]
  omega
end
end Vd
/-! Vd4: operators. -/
namespace Vd
open PySem PySem.Spec PyProof.Rows L2

section
variable {g : Gx} {σ : L2.St} {Hb H : Hp} {e : VE} {p : Addr} {o : HO}
theorem not_ow (I : VS g Hb e σ H) (hp : H p = none) : ¬ Ow g e σ p := fun z => by
  obtain ⟨u, h⟩ := Ow.there I z
  rw [hp] at h; cases h
theorem PK.temp (I : VS g Hb e σ H) (hp : H p = none) : PK g σ Hb H e Hb (upd H p o) e := ⟨.temp hp, I.temp hp, .refl e⟩
theorem PK.new (I : VS g Hb e σ H) (hp : H p = none) : PK g σ Hb H e (upd Hb p o) (upd H p o) e := by
  have hb := I.ex.back hp
  exact ⟨.new hp hb, (I.temp hp).keep upd_same (not_ow I hp) hb, .refl e⟩
theorem RV.temp {c : OC} (I : VS g Hb e σ H) (hp : H p = none) (r : RO g Hb (upd H p o) c p) : RV g H Hb (upd H p o) e σ (.fr c) (.ref p) :=
  ⟨p, rfl, hp, I.ex.back hp, r, not_ow I hp⟩
end
/-- an operation of two data is sound -/
def Op2Ok (g : Gx) (X : Cx) (f : Value → Value → Sem Value) (a b : D) (v : Val) : Prop :=
  ∀ e σ Hb H x y (Q : VK), VS g Hb e σ H → RR g Hb H a x → RR g Hb H b y → (∀ z Hb' H', PK g σ Hb H e Hb' H' e → RV g H Hb' H' e σ v z → Q z H') → rW X f x y H Q
section
variable {g : Gx} {X : Cx} {f : Value → Value → Sem Value}
/-- .. whose answer is plain data, by a rule that leaves the heap -/
theorem Op2Ok.pure {a b d : D} {r : R2} (h : OpR X f r) (k : ∀ Hb H x y, Ex Hb H → RR g Hb H a x → RR g Hb H b y → ∃ z, (∀ Hb, Rp g Hb d z) ∧ ∀ Q : VK, Q z H → r x y H Q) : Op2Ok g X f a b (.p d) := by
  intro e σ Hb H x y Q I ra rb q
  obtain ⟨z, hz, hr⟩ := k Hb H x y I.ex ra rb
  exact rW_of h (hr Q (q z Hb H (.refl I) (hz Hb)))
def o2 : O2 → Operator
  | .add => .Add
  | .sub => .Sub
  | .mul => .Mult
  | .fdiv => .FloorDiv
  | .mod => .Mod
  | .pow => .Pow
theorem line_eq : line = sizeLine := by rw [sizeLine_eq]; rfl
theorem len_sT (l : List Nat) : (sT l).length = l.length := by
  show (l.toArray).size = l.length
  simp
theorem sT_app (l m : List Nat) : sT l ++ sT m = sT (l ++ m) := by
  show (⟨l.toArray ++ m.toArray⟩ : Str) = ⟨(l ++ m).toArray⟩
  simp
theorem Rps.nil_iff {H : Hp} {l : List D} {vs : List V} (h : Rps g H l vs) : vs = [] ↔ l = [] := by
  have := h.length
  rw [← List.length_eq_zero_iff, ← List.length_eq_zero_iff, this]
theorem bop_ok (hK : X.K = g.K) {o : O2} {a b : D} {v : Val} (h : bop o a b = some v) : Op2Ok g X (binaryOp (o2 o)) a b v := by
  have hl := line_eq
  unfold bop at h
  split at h
  · cases h
    refine .pure op_add fun Hb H x y ex ra rb => ⟨_, fun _ => rfl, fun Q q => ⟨_, _, ra, rb, q⟩⟩
  · split at h
    · rename_i a b hz
      cases h
      refine .pure op_add_str fun Hb H x y ex ra rb => ⟨.str (sT a ++ sT b), fun _ => ⟨by rw [sT_app], by rw [List.length_append]; omega⟩, fun Q q => ⟨_, _, ra.1, rb.1, by rw [len_sT, len_sT]; omega, q⟩⟩
    · cases h
  · split at h
    · rename_i a b hz
      cases h
      intro e σ Hb H x y Q I ra rb q
      obtain ⟨p, vs, rfl, h1, r1⟩ := ra
      obtain ⟨p2, ws, rfl, h2, r2⟩ := rb
      refine rW_of op_catL ⟨p, p2, vs, ws, rfl, rfl, by rw [hK]; exact h1, by rw [hK]; exact h2, by rw [r1.length, r2.length]; omega, fun n hn => ?_⟩
      exact q _ _ _ (.temp I hn) (RV.temp I hn ⟨_, upd_same, r1.app r2⟩)
    · cases h
  · split at h
    · rename_i a b hz
      cases h
      intro e σ Hb H x y Q I ra rb q
      obtain ⟨p, vs, rfl, h1, r1⟩ := ra
      obtain ⟨p2, ws, rfl, h2, r2⟩ := rb
      have hh : SqT X.K H p vs := by rw [hK]; exact I.ex.sqt h1
      have hh2 : SqT X.K H p2 ws := by rw [hK]; exact I.ex.sqt h2
      refine rW_of op_catA ⟨p, p2, vs, ws, rfl, rfl, hh, hh2, by rw [r1.length, r2.length]; omega, fun e1 => ?_, fun _ e2 => ?_, fun _ _ n hn => ?_⟩
      · have := r1.nil_iff.mp e1
        subst this
        exact q _ _ _ (.refl I) ⟨p2, ws, rfl, h2, r2⟩
      · have := r2.nil_iff.mp e2
        subst this
        refine q _ _ _ (.refl I) ⟨p, vs, rfl, h1, ?_⟩
        rw [List.append_nil]; exact r1
      · have hb := I.ex.back hn
        exact q _ _ _ (.new I hn) ⟨n, _, rfl, .of upd_same, (Rps.mono (.new hb) _ _ r1).app (Rps.mono (.new hb) _ _ r2)⟩
    · cases h
  · cases h
    refine .pure op_sub fun Hb H x y ex ra rb => ⟨_, fun _ => rfl, fun Q q => ⟨_, _, ra, rb, q⟩⟩
  · split at h
    · rename_i i j hz
      cases h
      refine .pure op_mul fun Hb H x y ex ra rb => ⟨_, fun _ => rfl, fun Q q => ⟨_, _, ra, rb, hz, q⟩⟩
    · cases h
  · split at h
    · rename_i a k hz
      cases h
      intro e σ Hb H x y Q I ra rb q
      obtain ⟨p, vs, rfl, h1, r1⟩ := ra
      obtain ⟨z1, z2, z3⟩ := hz
      refine rW_of op_repL ⟨p, k, vs, rfl, rb, by rw [hK]; exact h1, by omega, by omega, by rw [r1.length]; omega, fun n hn => ?_⟩
      exact q _ _ _ (.temp I hn) (RV.temp I hn ⟨_, upd_same, r1.rep _⟩)
    · cases h
  · split at h
    · rename_i a k hz
      cases h
      intro e σ Hb H x y Q I ra rb q
      obtain ⟨p, vs, rfl, h1, r1⟩ := ra
      obtain ⟨z0, z1, z2, z3⟩ := hz
      have hh : SqT X.K H p vs := by rw [hK]; exact I.ex.sqt h1
      refine rW_of op_repT ⟨p, k, vs, rfl, rb, hh, fun e1 => ?_, z1, z2, by rw [r1.length]; exact z3, fun n hn => ?_⟩
      · have := r1.nil_iff.mp e1
        subst this
        cases z0
      · have hb := I.ex.back hn
        exact q _ _ _ (.new I hn) ⟨n, _, rfl, .of upd_same, (Rps.mono (.new hb) _ _ r1).rep _⟩
    · cases h
  · split at h
    · rename_i i j hz
      cases h
      refine .pure op_fdiv fun Hb H x y ex ra rb => ⟨_, fun _ => rfl, fun Q q => ⟨_, _, ra, rb, hz, q⟩⟩
    · cases h
  · split at h
    · rename_i i j hz
      cases h
      refine .pure op_mod fun Hb H x y ex ra rb => ⟨_, fun _ => rfl, fun Q q => ⟨_, _, ra, rb, hz, q⟩⟩
    · cases h
  · split at h
    · rename_i i j hz
      cases h
      refine .pure op_pow fun Hb H x y ex ra rb => ⟨_, fun _ => rfl, fun Q q => ⟨_, _, ra, rb, hz, q⟩⟩
    · cases h
  · cases h

/-! ### comparisons -/
mutual
def toPy : D → PyData
  | .non => .none
  | .bl b => .bool b
  | .int i => .int i
  | .str l => .str (sT l)
  | .tup l => .tuple (toPys l)
  | .lst l => .list (toPys l)
  | .dct _ => .none
  | .ins _ _ => .none
def toPys : List D → List PyData
  | [] => []
  | d :: l => toPy d :: toPys l
end
theorem sT_inj {a b : List Nat} : (sT a = sT b) ↔ a = b := by
  constructor
  · intro h
    have h' : (⟨a.toArray⟩ : Str) = ⟨b.toArray⟩ := h
    simpa using h'
  · rintro rfl; rfl
mutual
theorem deq_py : ∀ a b : D, plain a = true → plain b = true → PyData.eqv (toPy a) (toPy b) = deq a b
  | .non, b, _, hb => by cases b <;> first | (cases hb; done) | simp [toPy, PyData.eqv, deq]
  | .bl x, b, _, hb => by cases b <;> first | (cases hb; done) | (simp [toPy, PyData.eqv, deq]; done) | (simp [toPy, PyData.eqv, deq]; split <;> simp)
  | .int i, b, _, hb => by cases b <;> first | (cases hb; done) | (simp [toPy, PyData.eqv, deq]; done) | (simp [toPy, PyData.eqv, deq]; split <;> simp)
  | .str s, b, _, hb => by
    cases b with
    | str t =>
      simp only [toPy, PyData.eqv, deq]
      rw [Bool.eq_iff_iff]
      simp [sT_inj]
    | _ => first | (cases hb; done) | simp [toPy, PyData.eqv, deq]
  | .lst l, b, ha, hb => by
    cases b with
    | lst m => simp only [toPy, PyData.eqv, deq]; exact deqs_py l m ha hb
    | _ => first | (cases hb; done) | simp [toPy, PyData.eqv, deq]
  | .tup l, b, ha, hb => by
    cases b with
    | tup m => simp only [toPy, PyData.eqv, deq]; exact deqs_py l m ha hb
    | _ => first | (cases hb; done) | simp [toPy, PyData.eqv, deq]
theorem deqs_py : ∀ a b : List D, plains a = true → plains b = true → PyData.eqvAll (toPys a) (toPys b) = deqs a b
  | [], [], _, _ => by simp [toPys, PyData.eqvAll, deqs]
  | [], _ :: _, _, _ => by simp [toPys, PyData.eqvAll, deqs]
  | _ :: _, [], _, _ => by simp [toPys, PyData.eqvAll, deqs]
  | a :: l, b :: m, ha, hb => by
    simp only [plains, Bool.and_eq_true] at ha hb
    simp only [toPys, PyData.eqvAll, deqs]
    rw [deq_py a b ha.1 hb.1, deqs_py l m ha.2 hb.2]
end
mutual
theorem dep_py : ∀ a : D, (toPy a).depth ≤ dep a
  | .non => by simp [toPy, PyData.depth]
  | .bl _ => by simp [toPy, PyData.depth]
  | .int _ => by simp [toPy, PyData.depth]
  | .str _ => by simp [toPy, PyData.depth]
  | .dct _ => by simp [toPy, PyData.depth]
  | .ins _ _ => by simp [toPy, PyData.depth]
  | .lst l => by simp only [toPy, PyData.depth, dep]; have := deps_py l; omega
  | .tup l => by simp only [toPy, PyData.depth, dep]; have := deps_py l; omega
theorem deps_py : ∀ a : List D, PyData.depthAll (toPys a) ≤ deps a
  | [] => by simp [toPys, PyData.depthAll]
  | a :: l => by
    simp only [toPys, PyData.depthAll, deps]
    have h1 := dep_py a
    have h2 := deps_py l
    show max _ _ ≤ max _ _
    omega
end
mutual
theorem plain_py : ∀ a : D, plain a = true → (toPy a).plain = true
  | .non, _ => rfl
  | .bl _, _ => rfl
  | .int _, _ => rfl
  | .str _, _ => rfl
  | .dct _, h => by cases h
  | .ins _ _, h => by cases h
  | .lst l, h => by simp only [toPy, PyData.plain]; exact plains_py l h
  | .tup l, h => by simp only [toPy, PyData.plain]; exact plains_py l h
theorem plains_py : ∀ a : List D, plains a = true → PyData.plainAll (toPys a) = true
  | [], _ => rfl
  | a :: l, h => by
    simp only [plains, Bool.and_eq_true] at h
    simp only [toPys, PyData.plainAll, plain_py a h.1, plains_py l h.2, Bool.and_self]
end
mutual
theorem dp_of {H : Hp} : ∀ (d : D) (v : V), plain d = true → Rp g H d v → Dp g.K H v (toPy d)
  | .non, v, _, h => by cases h; exact .non
  | .bl b, v, _, h => by cases h; exact .bl b
  | .int i, v, _, h => by cases h; exact .int i
  | .str l, v, _, h => by cases h.1; exact .str _
  | .dct _, _, h, _ => by cases h
  | .ins _ _, _, h, _ => by cases h
  | .lst l, v, h, r => by
    obtain ⟨a, vs, rfl, h1, h2⟩ := r
    simp only [toPy]
    exact .lst h1 (dps_of l vs h h2)
  | .tup l, v, h, r => by
    obtain ⟨a, vs, rfl, h1, h2⟩ := r
    simp only [toPy]
    exact .tup h1 (dps_of l vs h h2)
theorem dps_of {H : Hp} : ∀ (d : List D) (v : List V), plains d = true → Rps g H d v → DpAll g.K H v (toPys d)
  | [], v, _, h => by cases h; exact .nil
  | a :: l, v, h, r => by
    obtain ⟨x, xs, rfl, h1, h2⟩ := r
    simp only [plains, Bool.and_eq_true] at h
    exact .cons (dp_of a x h.1 h1) (dps_of l xs h.2 h2)
end
def cq : Cq → CmpOp
  | .eq => .Eq
  | .ne => .NotEq
  | .lt => .Lt
  | .le => .LtE
  | .gt => .Gt
  | .ge => .GtE
  | .isin => .In
  | .notin => .NotIn
  | .is => .Is
  | .isnt => .IsNot
theorem any_py (a : D) (ha : plain a = true) : ∀ l : List D, plains l = true → ((toPys l).any fun y => PyData.eqv y (toPy a)) = inD a l
  | [], _ => rfl
  | b :: l, h => by
    simp only [plains, Bool.and_eq_true] at h
    have ih := any_py a ha l h.2
    unfold inD at ih ⊢
    rw [List.any_cons, ← ih, ← deq_py b a h.1 ha]
    simp only [toPys, List.any_cons]
theorem kT_inj {a b : DK} (h : kT a = kT b) : a = b := by
  cases a with
  | inl i => cases b with
    | inl j => rw [Sum.inl.inj h]
    | inr m => cases h
  | inr l => cases b with
    | inl j => cases h
    | inr m => rw [sT_inj.mp (Sum.inr.inj h)]
theorem rpk_look {H : Hp} (k : DK) : ∀ {l : List (DK × D)} {kvs : List (Key × V)}, Rpk g H l kvs → (∀ d, look k l = some d → ∃ v, valV kvs (kT k) = some v ∧ Rp g H d v) ∧ (look k l = none → valV kvs (kT k) = none)
  | [], _, h => by cases h; exact ⟨fun d z => (nomatch z), fun _ => rfl⟩
  | (j, d) :: l, _, h => by
    obtain ⟨v, r, rfl, h1, h2⟩ := h
    have ih := rpk_look k h2
    by_cases q : j = k
    · subst q
      rw [valV_pos rfl]
      unfold look
      rw [if_pos rfl]
      exact ⟨fun d' z => ⟨v, rfl, by cases z; exact h1⟩, fun z => (nomatch z)⟩
    · rw [valV_neg (fun z => q (kT_inj z))]
      unfold look
      rw [if_neg q]
      exact ih
theorem rpk_some {H : Hp} {k : DK} {l : List (DK × D)} {kvs : List (Key × V)} (h : Rpk g H l kvs) : (valV kvs (kT k)).isSome = hasK k l := by
  obtain ⟨h1, h2⟩ := rpk_look k h
  unfold hasK
  cases q : look k l with
  | none => rw [h2 q]; rfl
  | some d =>
    obtain ⟨v, e, _⟩ := h1 d q
    rw [e]; rfl
theorem rpk_any {H : Hp} {k : DK} : ∀ {l : List (DK × D)} {kvs : List (Key × V)}, Rpk g H l kvs → (kvs.any fun p => decide (p.1 = kT k)) = l.any fun p => decide (p.1 = k)
  | [], _, h => by cases h; rfl
  | (j, d) :: l, _, h => by
    obtain ⟨v, r, rfl, h1, h2⟩ := h
    rw [List.any_cons, List.any_cons, rpk_any h2]
    congr 1
    rw [decide_eq_decide]
    exact ⟨fun z => kT_inj z, fun z => congrArg kT z⟩
theorem rpk_map {H : Hp} {k : DK} {d : D} {v : V} (hv : Rp g H d v) : ∀ {l : List (DK × D)} {kvs : List (Key × V)}, Rpk g H l kvs → Rpk g H (l.map fun p => if p.1 = k then (p.1, d) else p) (kvs.map fun p => if p.1 = kT k then (p.1, v) else p)
  | [], _, h => by cases h; rfl
  | (j, d') :: l, _, h => by
    obtain ⟨w, r, rfl, h1, h2⟩ := h
    have ih := rpk_map (k := k) hv h2
    rw [List.map_cons, List.map_cons]
    by_cases q : j = k
    · subst q
      rw [if_pos rfl, if_pos rfl]
      exact ⟨v, _, rfl, hv, ih⟩
    · rw [if_neg q, if_neg (fun z => q (kT_inj z))]
      exact ⟨w, _, rfl, h1, ih⟩
theorem rpk_app {H : Hp} {k : DK} {d : D} {v : V} (hv : Rp g H d v) : ∀ {l : List (DK × D)} {kvs : List (Key × V)}, Rpk g H l kvs → Rpk g H (l ++ [(k, d)]) (kvs ++ [(kT k, v)])
  | [], _, h => by cases h; exact ⟨v, [], rfl, hv, rfl⟩
  | (j, d') :: l, _, h => by
    obtain ⟨w, r, rfl, h1, h2⟩ := h
    exact ⟨w, _, rfl, h1, rpk_app hv h2⟩
theorem rpk_put {H : Hp} {k : DK} {d : D} {v : V} (hv : Rp g H d v) {l : List (DK × D)} {kvs : List (Key × V)} (h : Rpk g H l kvs) : Rpk g H (putD l k d) (putK kvs (kT k) v) := by
  unfold putD putK
  rw [rpk_any h]
  split
  · exact rpk_map hv h
  · exact rpk_app hv h
theorem rpk_len {H : Hp} : ∀ {l : List (DK × D)} {kvs : List (Key × V)}, Rpk g H l kvs → kvs.length = l.length
  | [], _, h => by cases h; rfl
  | (j, d') :: l, _, h => by
    obtain ⟨w, r, rfl, h1, h2⟩ := h
    simp [rpk_len h2]
theorem key_V {H : Hp} {d : D} {x : V} {k : DK} (h : keyOf d = some k) (r : Rp g H d x) : x = kV (kT k) := by
  cases d with
  | int i => cases h; exact r
  | str l => cases h; exact r.1
  | _ => cases h
theorem blV_rv {H0 Hb H : Hp} {e : VE} {σ : L2.St} (b : Bool) : RV g H0 Hb H e σ (blV b) (.bl b) := rfl
theorem tup_RR {Hb H : Hp} {l : List D} {x : V} (h : RR g Hb H (.tup l) x) : Rp g Hb (.tup l) x := h
theorem isnon {Hb H : Hp} {a : D} {x : V} (ra : RR g Hb H a x) : decide (x = .non) = isNon a := by
  cases a with
  | non => cases ra; rfl
  | bl b => cases ra; rfl
  | int i => cases ra; rfl
  | str l =>
    have r : x = .str (sT l) ∧ _ := ra
    rw [r.1]; rfl
  | tup l => obtain ⟨_, _, rfl, _⟩ := ra; rfl
  | lst l => obtain ⟨_, _, rfl, _⟩ := ra; rfl
  | dct l => obtain ⟨_, _, rfl, _⟩ := ra; rfl
  | ins c l => obtain ⟨_, _, _, rfl, _⟩ := ra; rfl
/-- comparisons -/
theorem cop_ok (hK : X.K = g.K) (hu : X.A.units + 64 < cLine) {o : Cq} {a b : D} {t : Bool} (h : cop o a b = some t) : Op2Ok g X (compareOp (cq o)) a b (blV t) := by
  have scal : ∀ {r : R2} (hr : OpR X (compareOp (cq o)) r), (∀ Hb H x y, Ex Hb H → RR g Hb H a x → RR g Hb H b y → ∀ Q : VK, Q (.bl t) H → r x y H Q) → Op2Ok g X (compareOp (cq o)) a b (blV t) := fun hr k =>
    .pure hr fun Hb H x y ex ra rb => ⟨.bl t, fun _ => rfl, k Hb H x y ex ra rb⟩
  have eqs : ∀ (neg : Bool), eqOk a b = true → (o = if neg then .ne else .eq) → t = (if neg then !deq a b else deq a b) → Op2Ok g X (compareOp (cq o)) a b (blV t) := fun neg ok ho ht => by
    unfold eqOk at ok
    simp only [Bool.and_eq_true, decide_eq_true_eq] at ok
    obtain ⟨⟨pa, pb⟩, hd⟩ := ok
    intro e σ Hb H x y Q I ra rb q pins s σ' v u J rx ry
    have Da := dp_of a x pa (ra.rp I.ex)
    have Db := dp_of b y pb (rb.rp I.ex)
    rw [← hK] at Da Db
    obtain ⟨as, r1⟩ := Dp.reads J _ x v Da rx
    obtain ⟨bs, r2⟩ := Dp.reads J _ y u Db ry
    have hd' : X.A.units + min (toPy a).depth (toPy b).depth < cLine := by
      have := dep_py a
      have := dep_py b
      have hd : min (dep a) (dep b) ≤ 40 := hd
      omega
    have fin : EP X pins σ' Q (.bool t) s := ⟨.bl t, H, J, rfl, q _ _ _ (.refl I) (blV_rv t)⟩
    cases neg with
    | false =>
      have ho' : o = .eq := ho
      subst ho'
      refine SeqAt.eq_plain r1 r2 (plain_py a pa) (plain_py b pb) hd' ?_
      rw [deq_py a b pa pb]
      rw [if_neg (by decide)] at ht
      rw [← ht]; exact fin
    | true =>
      have ho' : o = .ne := ho
      subst ho'
      refine SeqAt.ne_plain r1 r2 (plain_py a pa) (plain_py b pb) hd' ?_
      rw [deq_py a b pa pb]
      rw [if_pos rfl] at ht
      rw [← ht]; exact fin
  have ins : ∀ (neg tp : Bool) (l : List D), b = (if tp then .tup l else .lst l) → inOk a l = true → (o = if neg then .notin else .isin) → t = (if neg then !inD a l else inD a l) → Op2Ok g X (compareOp (cq o)) a b (blV t) := fun neg tp l hb ok ho ht => by
    unfold inOk at ok
    simp only [Bool.and_eq_true, decide_eq_true_eq] at ok
    obtain ⟨⟨pa, pl⟩, hd⟩ := ok
    intro e σ Hb H x y Q I ra rb q pins s σ' v u J rx ry
    have pb : plain b = true := by subst hb; cases tp <;> exact pl
    have Da := dp_of a x pa (ra.rp I.ex)
    have Db := dp_of b y pb (rb.rp I.ex)
    rw [← hK] at Da Db
    obtain ⟨as, r1⟩ := Dp.reads J _ x v Da rx
    obtain ⟨bs, r2⟩ := Dp.reads J _ y u Db ry
    have hd' : X.A.units + 1 + min (PyData.depthAll (toPys l)) (toPy a).depth < cLine := by
      have := dep_py a
      have := deps_py l
      have hd : min (deps l) (dep a) ≤ 40 := hd
      omega
    have fin : EP X pins σ' Q (.bool t) s := ⟨.bl t, H, J, rfl, q _ _ _ (.refl I) (blV_rv t)⟩
    cases neg with
    | false =>
      have ho' : o = .isin := ho
      subst ho'
      rw [if_neg (by decide)] at ht
      rw [ht, ← any_py a pa l pl] at fin
      cases tp with
      | true =>
        have hb' : b = .tup l := hb
        subst hb'
        exact SeqAt.in_tuple_data r2 r1 (plains_py l pl) (plain_py a pa) hd' fin
      | false =>
        have hb' : b = .lst l := hb
        subst hb'
        exact SeqAt.in_list_data r2 r1 (plains_py l pl) (plain_py a pa) hd' fin
    | true =>
      have ho' : o = .notin := ho
      subst ho'
      rw [if_pos rfl] at ht
      rw [ht, ← any_py a pa l pl] at fin
      cases tp with
      | true =>
        have hb' : b = .tup l := hb
        subst hb'
        exact SeqAt.notIn_tuple_data r2 r1 (plains_py l pl) (plain_py a pa) hd' fin
      | false =>
        have hb' : b = .lst l := hb
        subst hb'
        exact SeqAt.notIn_list_data r2 r1 (plains_py l pl) (plain_py a pa) hd' fin
  unfold cop at h
  split at h
  · split at h
    · cases h; exact eqs false (by assumption) rfl rfl
    · cases h
  · split at h
    · cases h; exact eqs true (by assumption) rfl rfl
    · cases h
  · cases h; exact scal op_lt fun Hb H x y ex ra rb Q q => ⟨_, _, ra, rb, q⟩
  · cases h; exact scal op_le fun Hb H x y ex ra rb Q q => ⟨_, _, ra, rb, q⟩
  · cases h; exact scal op_gt fun Hb H x y ex ra rb Q q => ⟨_, _, ra, rb, q⟩
  · cases h; exact scal op_ge fun Hb H x y ex ra rb Q q => ⟨_, _, ra, rb, q⟩
  · cases h; exact scal op_lt_str fun Hb H x y ex ra rb Q q => ⟨_, _, ra.1, rb.1, q⟩
  · cases h; exact scal op_le_str fun Hb H x y ex ra rb Q q => ⟨_, _, ra.1, rb.1, q⟩
  · cases h; exact scal op_gt_str fun Hb H x y ex ra rb Q q => ⟨_, _, ra.1, rb.1, q⟩
  · cases h; exact scal op_ge_str fun Hb H x y ex ra rb Q q => ⟨_, _, ra.1, rb.1, q⟩
  · rename_i a
    cases h
    refine scal op_isN fun Hb H x y ex ra rb Q q => ⟨rb, ?_⟩
    rw [isnon ra]; exact q
  · rename_i a
    cases h
    refine scal op_notN fun Hb H x y ex ra rb Q q => ⟨rb, ?_⟩
    rw [isnon ra]; exact q
  · rename_i a b
    cases h
    refine scal op_is_bl fun Hb H x y ex ra rb Q q => ⟨a, b, ra, rb, ?_⟩
    have : decide (a = b) = (a == b) := by cases a <;> cases b <;> rfl
    rw [this]; exact q
  · rename_i a b
    cases h
    refine scal op_isnot_bl fun Hb H x y ex ra rb Q q => ⟨a, b, ra, rb, ?_⟩
    have : (!decide (a = b)) = (a != b) := by cases a <;> cases b <;> rfl
    rw [this]; exact q
  · split at h
    · cases h; exact ins false false _ rfl (by assumption) rfl rfl
    · cases h
  · split at h
    · cases h; exact ins false true _ rfl (by assumption) rfl rfl
    · cases h
  · cases h; exact scal op_in_sign fun Hb H x y ex ra rb Q q => ⟨_, _, ra.1, rb.1, q⟩
  · rename_i k l _
    cases hk : keyOf a with
    | none => rw [hk] at h; cases h
    | some k =>
      rw [hk] at h; cases h
      intro e σ Hb H x y Q I ra rb q pins s σ' v u J rx ry
      obtain ⟨p, kvs, rfl, h1, r1⟩ := rb
      cases ry
      have ex := key_V hk (ra.rp I.ex)
      refine d_in (by omega) J (.k h1) (by rw [← ex]; exact rx) fun s' J' => ?_
      rw [rpk_some r1]
      exact ⟨.bl _, H, J', rfl, q _ _ _ (.refl I) (blV_rv _)⟩
  · split at h
    · cases h; exact ins true false _ rfl (by assumption) rfl rfl
    · cases h
  · split at h
    · cases h; exact ins true true _ rfl (by assumption) rfl rfl
    · cases h
  · cases h; exact scal op_notIn_sign fun Hb H x y ex ra rb Q q => ⟨_, _, ra.1, rb.1, q⟩
  · cases hk : keyOf a with
    | none => rw [hk] at h; cases h
    | some k =>
      rw [hk] at h; cases h
      intro e σ Hb H x y Q I ra rb q pins s σ' v u J rx ry
      obtain ⟨p, kvs, rfl, h1, r1⟩ := rb
      cases ry
      have ex := key_V hk (ra.rp I.ex)
      refine d_notIn (by omega) J (.k h1) (by rw [← ex]; exact rx) fun s' J' => ?_
      rw [rpk_some r1]
      exact ⟨.bl _, H, J', rfl, q _ _ _ (.refl I) (blV_rv _)⟩
  · cases h
end
end Vd
/-! Vd5: what is kept from now on; names, constants, operators, displays. -/
namespace Vd
open PySem PySem.Spec PyProof.Rows L2

section
variable {g : Gx} {σ : L2.St} {Hb0 H0 Hb H : Hp} {e0 e : VE}
/-- known data, a slot, or a new object that is kept by now -/
def RK (g : Gx) (Hb : Hp) (e : VE) (σ : L2.St) : Val → V → Prop
  | .p d, x => Rp g Hb d x
  | .vw i, x => σ[i]? = some (some x) ∧ ∃ s, e[i]? = some s ∧ s ≠ .un
  | .fr c, x => Rp g Hb c.toD x
def RKs (g : Gx) (Hb : Hp) (e : VE) (σ : L2.St) : List Val → List V → Prop
  | [], xs => xs = []
  | v :: l, xs => ∃ x r, xs = x :: r ∧ RK g Hb e σ v x ∧ RKs g Hb e σ l r
theorem RK.mono {Hb' : Hp} {e' : VE} {v : Val} {x : V} (r : RK g Hb e σ v x) (b : Ex Hb Hb') (k : EK e e') : RK g Hb' e' σ v x := by
  cases v with
  | p d => exact Rp.mono b d x r
  | fr c => exact Rp.mono b _ x r
  | vw i =>
    obtain ⟨h1, s, h2, n⟩ := r
    obtain ⟨s', h3, q⟩ := k.at' i s h2
    refine ⟨h1, s', h3, ?_⟩
    rintro rfl
    cases q
    exact n rfl
theorem RKs.mono {Hb' : Hp} {e' : VE} (b : Ex Hb Hb') (k : EK e e') : ∀ {vs : List Val} {xs : List V}, RKs g Hb e σ vs xs → RKs g Hb' e' σ vs xs
  | [], _, h => h
  | v :: l, _, h => by
    obtain ⟨x, r, rfl, h1, h2⟩ := h
    exact ⟨x, r, rfl, h1.mono b k, RKs.mono b k h2⟩
/-- a temporary object of the stretch is kept -/
theorem PK.keep (p : PK g σ Hb0 H0 e0 Hb H e) {a : Addr} {o : HO} (h0 : H0 a = none) (ha : H a = some o) (hb : Hb a = none) (no : ¬ Ow g e σ a) : PK g σ Hb0 H0 e0 (upd Hb a o) H e :=
  ⟨⟨p.vp.b.trans (.new hb), p.vp.k, fun b u q => by
      by_cases z : b = a
      · subst z; exact .inr (.inl h0)
      · rw [upd_ne z] at q; exact p.vp.n b u q, p.vp.s, p.vp.t⟩, p.st.keep ha no hb, p.ek⟩
theorem RV.other {v : Val} {y : V} {a : Addr} {o : HO} (r : RV g H0 Hb H e σ v y) (hb : Hb a = none) (n : ∀ c, v = .fr c → y ≠ .ref a) : RV g H0 (upd Hb a o) H e σ v y := by
  cases v with
  | p d => exact Rp.mono (.new hb) d y r
  | vw i => exact r
  | fr c =>
    obtain ⟨b, rfl, h0, h1, ro, no⟩ := r
    have ne : b ≠ a := fun z => n c rfl (by rw [z])
    exact ⟨b, rfl, h0, by rw [upd_ne ne]; exact h1, ro.mono (.new hb) fun _ h => h, no⟩
theorem RVs.other {a : Addr} {o : HO} (hb : Hb a = none) : ∀ {vs : List Val} {ys : List V}, RVs g H0 Hb H e σ vs ys → (∀ (j : Nat) c, vs[j]? = some (Val.fr c) → ys[j]? ≠ some (V.ref a)) → RVs g H0 (upd Hb a o) H e σ vs ys
  | [], _, h, _ => h
  | v :: l, _, h, n => by
    obtain ⟨x, r, rfl, h1, h2, h3⟩ := h
    refine ⟨x, r, rfl, h1.other hb fun c q z => ?_, RVs.other hb h2 fun j c q => ?_, h3⟩
    · exact n 0 c (by rw [q]; rfl) (by rw [z]; rfl)
    · exact n (j + 1) c (by simpa using q)
theorem RVs.keep : ∀ {vs : List Val} {xs : List V} {Hb : Hp}, PK g σ Hb0 H0 e0 Hb H e → RVs g H0 Hb H e σ vs xs → ∃ Hb', PK g σ Hb0 H0 e0 Hb' H e ∧ Ex Hb Hb' ∧ RKs g Hb' e σ vs xs
  | [], _, Hb, p, h => ⟨Hb, p, .refl _, h⟩
  | v :: l, _, Hb, p, h => by
    obtain ⟨x, r, rfl, h1, h2, h3⟩ := h
    cases v with
    | p d =>
      obtain ⟨Hb', p', b', k'⟩ := RVs.keep p h2
      exact ⟨Hb', p', b', x, r, rfl, Rp.mono b' d x h1, k'⟩
    | vw i =>
      obtain ⟨Hb', p', b', k'⟩ := RVs.keep p h2
      exact ⟨Hb', p', b', x, r, rfl, h1, k'⟩
    | fr c =>
      obtain ⟨a, rfl, h0, hb, ro, no⟩ := h1
      obtain ⟨o, ho, _⟩ := id ro.there
      have p1 := p.keep (o := o) h0 ho hb no
      have h2' := RVs.other (o := o) hb h2 fun j c' q => h3 c rfl j c' q
      obtain ⟨Hb', p', b', k'⟩ := RVs.keep p1 h2'
      have rp : Rp g (upd Hb a o) c.toD (.ref a) := (ro.mono (H' := upd Hb a o) (.new hb) fun u hu => by rw [ho] at hu; cases hu; exact upd_same).toD
      exact ⟨Hb', p', (Ex.new hb).trans b', _, r, rfl, Rp.mono b' _ _ rp, k'⟩
/-- a slot's own object is kept from now on -/
theorem PK.freeze (p : PK g σ Hb0 H0 e0 Hb H e) {i : Nat} {c : OC} (h : e[i]? = some (.own false false c)) : ∃ Hb', PK g σ Hb0 H0 e0 Hb' H (e.set i (.dat c.toD)) ∧ Ex Hb Hb' ∧ ∃ x, σ[i]? = some (some x) ∧ Rp g Hb' c.toD x := by
  have I := p.st
  obtain ⟨a, hs, hb, ro⟩ := I.own i _ _ c h
  obtain ⟨o, ho, _⟩ := id ro.there
  have rp : Rp g (upd Hb a o) c.toD (.ref a) := (ro.mono (H' := upd Hb a o) (.new hb) fun u hu => by rw [ho] at hu; cases hu; exact upd_same).toD
  have hi : i < e.length := (List.getElem?_eq_some_iff.mp h).1
  have ek : EK e (e.set i (.dat c.toD)) := .set h (.frz c _)
  have oth : ∀ (j : Nat) b k c', (e.set i (.dat c.toD))[j]? = some (SS.own b k c') → j ≠ i ∧ e[j]? = some (SS.own b k c') := fun j b k c' q => by
    by_cases z : i = j
    · subst z
      rw [List.getElem?_set_self hi] at q
      cases q
    · rw [List.getElem?_set_ne z] at q
      exact ⟨fun w => z w.symm, q⟩
  have tn : ¬ g.tb a := fun z => by
    obtain ⟨ps, q⟩ := (I.tbn a z).2
    obtain ⟨u, hu, n1, _⟩ := ro.there
    rw [q] at hu; cases hu
    exact n1 ps rfl
  refine ⟨upd Hb a o, p.trans ⟨⟨.new hb, fun _ _ q _ => q, fun b u q => ?_, fun b q => .inl (ek.ow q), fun _ q => q⟩, ⟨by rw [List.length_set]; exact I.len, fun b u q => ?_, fun j d q => ?_, fun j b k c' q => ?_, fun j l b k c1 b' k' c2 a' q1 q2 => ?_, I.tok, fun b q => ?_⟩, ek⟩, .new hb, .ref a, hs, rp⟩
  · by_cases z : b = a
    · subst z; exact .inr (.inr (.inr ⟨i, _, _, _, h, hs⟩))
    · rw [upd_ne z] at q; exact .inl q
  · by_cases z : b = a
    · subst z; rw [upd_same] at q; rw [ho]; exact q
    · rw [upd_ne z] at q; exact I.ex b u q
  · by_cases z : i = j
    · subst z
      rw [List.getElem?_set_self hi] at q
      cases q
      exact ⟨_, hs, rp⟩
    · rw [List.getElem?_set_ne z] at q
      obtain ⟨v, e1, e2⟩ := I.dat j d q
      exact ⟨v, e1, Rp.mono (.new hb) d v e2⟩
  · obtain ⟨nj, q'⟩ := oth j b k c' q
    obtain ⟨a', e1, e2, e3⟩ := I.own j b k c' q'
    have ne : a' ≠ a := fun z => nj (I.inj j i b k c' _ _ c a q' h (by rw [e1, z]) hs)
    exact ⟨a', e1, by rw [upd_ne ne]; exact e2, e3.mono (.new hb) fun _ h => h⟩
  · exact I.inj j l b k c1 b' k' c2 a' (oth j _ _ _ q1).2 (oth l _ _ _ q2).2
  · have ne : b ≠ a := fun z => tn (z ▸ q)
    exact ⟨by rw [upd_ne ne]; exact (I.tbn b q).1, (I.tbn b q).2⟩
theorem fz_ok (p : PK g σ Hb0 H0 e0 Hb H e) {v : Val} {x : V} {d : D} {e' : VE} (r : RK g Hb e σ v x) (h : fz e v = some (d, e')) : ∃ Hb', PK g σ Hb0 H0 e0 Hb' H e' ∧ Ex Hb Hb' ∧ EK e e' ∧ Rp g Hb' d x := by
  cases v with
  | p d' => cases h; exact ⟨Hb, p, .refl _, .refl _, r⟩
  | fr c => cases h; exact ⟨Hb, p, .refl _, .refl _, r⟩
  | vw i =>
    obtain ⟨h1, s, h2, n⟩ := r
    dsimp only [fz] at h
    rw [h2] at h
    split at h
    · rename_i d' hd
      cases h
      cases hd
      obtain ⟨v, e1, e2⟩ := p.st.dat i _ h2
      rw [h1] at e1; cases e1
      exact ⟨Hb, p, .refl _, .refl _, e2⟩
    · rename_i c hd
      cases h
      cases hd
      obtain ⟨Hb', p', b', x', e1, e2⟩ := p.freeze h2
      rw [h1] at e1; cases e1
      exact ⟨Hb', p', b', .set h2 (.frz _ _), e2⟩
    · cases h
theorem fzs_ok : ∀ {vs : List Val} {xs : List V} {Hb : Hp} {e : VE} {ds : List D} {e' : VE}, PK g σ Hb0 H0 e0 Hb H e → RKs g Hb e σ vs xs → fzs vs e = some (ds, e') → ∃ Hb', PK g σ Hb0 H0 e0 Hb' H e' ∧ Ex Hb Hb' ∧ Rps g Hb' ds xs
  | [], _, Hb, e, ds, e', p, r, h => by cases h; exact ⟨Hb, p, .refl _, r⟩
  | v :: l, _, Hb, e, ds, e', p, r, h => by
    obtain ⟨x, xs, rfl, r1, r2⟩ := r
    unfold fzs at h
    cases q : fz e v with
    | none => rw [q] at h; cases h
    | some y =>
      obtain ⟨d, e1⟩ := y
      rw [q] at h
      dsimp only [Option.bind] at h
      cases q' : fzs l e1 with
      | none => rw [q'] at h; cases h
      | some y =>
        obtain ⟨ds1, e2⟩ := y
        rw [q'] at h
        cases h
        obtain ⟨Hb1, p1, b1, k1, s1⟩ := fz_ok p r1 q
        obtain ⟨Hb2, p2, b2, s2⟩ := fzs_ok p1 (RKs.mono b1 k1 r2) q'
        exact ⟨Hb2, p2, b1.trans b2, x, xs, rfl, Rp.mono b2 d x s1, s2⟩
end

/-! ### names, constants, operators -/
section
variable {g : Gx} {kk : Nat} {X : Cx} {W : WX} {ce : CE}
theorem se_var {i : Nat} {x : Str} {pos : Pos} (hN : X.N[i]? = some x) (hv : Vis X.env.scope x) (hd : (x == ("__debug__" : Str)) = false) (hcd : (x == ("__classdict__" : Str)) = false) : SE g X W (.Name x pos) (ev ce (.var i)) := by
  intro e σ Hb H Q I h
  refine tW_of (pe_var hN hv hd hcd) ?_
  unfold ev at h
  split at h
  · rename_i d q
    obtain ⟨v, e1, r⟩ := I.dat i d q
    exact ⟨v, e1, h v Hb H (.refl I) r⟩
  · rename_i b k c q
    obtain ⟨a, e1, _, r⟩ := I.own i b k c q
    exact ⟨_, e1, h _ Hb H (.refl I) ⟨e1, _, q, by intro z; cases z⟩⟩
  · exact h.elim
theorem se_const {x : Expr} {d : D} {v : V} {t : T} (h : PE X x (tC v)) (r : ∀ Hb, Rp g Hb d v) (ht : ∀ e, ev ce t e = .ok (.p d) e) : SE g X W x (ev ce t) := by
  intro e σ Hb H Q I k
  rw [ht] at k
  exact tW_of h (k v Hb H (.refl I) (r Hb))
theorem se_bin {o : O2} {a b : Expr} {ta tb : T} {pos : Pos} (G : Good g kk X W) (ha : SE g X W a (ev ce ta)) (hb : SE g X W b (ev ce tb)) : SE g X W (.BinOp a (o2 o) b pos) (ev ce (.bin o ta tb)) := by
  intro e σ Hb H Q I h
  unfold ev at h
  refine tW_of (pe_op (op_W X _) (pe_W X a) (pe_W X b)) ?_
  refine ha e σ Hb H _ I (CA.bind early_V h fun v1 e1 x1 Hb1 H1 p1 r1 h1 => ?_)
  refine hb e1 σ Hb1 H1 _ p1.st (CA.bind early_V h1 fun v2 e2 x2 Hb2 H2 p2 r2 h2 => ?_)
  obtain ⟨d1, d2, v, q1, q2, q3, k⟩ := CA.op2' h2
  have r1' := r1.step p2
  exact bop_ok G.hK q3 e2 σ Hb2 H2 x1 x2 Q p2.st (r1'.read p2.st q1) (r2.read p2.st q2) k
theorem Good.hu (G : Good g kk X W) : X.A.units + 64 < cLine := by have := G.rm.un; omega
theorem nomarkC {o : Cq} (b : Expr) (h : o ≠ .isin) (h2 : o ≠ .notin) : behindInMarks (cq o) b = false := by
  apply nobehind b
  · intro z; cases o <;> first | (cases z; done) | exact h rfl
  · intro z; cases o <;> first | (cases z; done) | exact h2 rfl
theorem se_cmp {o : Cq} {a b : Expr} {ta tb : T} {pos : Pos} (G : Good g kk X W) (hm : behindInMarks (cq o) b = false) (ha : SE g X W a (ev ce ta)) (hb : SE g X W b (ev ce tb)) : SE g X W (.Compare a [cq o] [b] pos) (ev ce (.cmp o ta tb)) := by
  intro e σ Hb H Q I h
  unfold ev at h
  refine tW_of (pe_cmpR (op_W X _) (pe_W X a) (pe_W X b) hm) ?_
  refine ha e σ Hb H _ I (CA.bind early_V h fun v1 e1 x1 Hb1 H1 p1 r1 h1 => ?_)
  refine hb e1 σ Hb1 H1 _ p1.st (CA.bind early_V h1 fun v2 e2 x2 Hb2 H2 p2 r2 h2 => ?_)
  obtain ⟨d1, d2, v, q1, q2, q3, k⟩ := CA.op2 h2
  have r1' := r1.step p2
  exact cop_ok G.hK G.hu q3 e2 σ Hb2 H2 x1 x2 Q p2.st (r1'.read p2.st q1) (r2.read p2.st q2) k
theorem se_chn {o o' : Cq} {a b c : Expr} {ta tb tc : T} {pos : Pos} (G : Good g kk X W) (hm : lastMarks [cq o, cq o'] [b, c] = false) (ha : SE g X W a (ev ce ta)) (hb : SE g X W b (ev ce tb)) (hc : SE g X W c (ev ce tc)) :
    SE g X W (.Compare a [cq o, cq o'] [b, c] pos) (ev ce (.chn o o' ta tb tc)) := by
  intro e σ Hb H Q I h
  unfold ev at h
  refine tW_of (pe_chain (op_W X _) (op_W X _) (pe_W X a) (pe_W X b) (pe_W X c) hm) ?_
  refine ha e σ Hb H _ I (CA.bind early_V h fun v1 e1 x1 Hb1 H1 p1 r1 h1 => ?_)
  refine hb e1 σ Hb1 H1 _ p1.st (CA.bind early_V h1 fun v2 e2 x2 Hb2 H2 p2 r2 h2 => ?_)
  obtain ⟨d1, d2, t, q1, q2, q3, k⟩ := CA.op2 h2
  have r1' := r1.step p2
  refine cop_ok G.hK G.hu q3 e2 σ Hb2 H2 x1 x2 _ p2.st (r1'.read p2.st q1) (r2.read p2.st q2) fun z Hb3 H3 p3 r3 => ?_
  have r3' : z = .bl t := r3
  refine ⟨t, r3', ?_⟩
  have k3 := CA.shift early_V p3 k
  cases t with
  | false =>
    rw [if_neg (by decide)] at k3 ⊢
    exact k3 _ _ _ (.refl p3.st) (blV_rv _)
  | true =>
    rw [if_pos rfl] at k3 ⊢
    refine hc e2 σ Hb3 H3 _ p3.st (CA.bind early_V k3 fun v4 e4 x4 Hb4 H4 p4 r4 h4 => ?_)
    obtain ⟨d3, d4, t', q4, q5, q6, k'⟩ := CA.op2 h4
    have r2' := (r2.step p3).step p4
    exact cop_ok G.hK G.hu q6 e4 σ Hb4 H4 x2 x4 Q p4.st (r2'.read p4.st q4) (r4.read p4.st q5) k'
theorem RR.bool {Hb H : Hp} {d : D} {x : V} {t : Bool} (r : RR g Hb H d x) (h : boolOf d = some t) : x = .bl t := by
  cases d <;> first | (cases h; done) | (cases h; exact r)
theorem se_and {a b : Expr} {rest : List Expr} {ta tb : T} {pos : Pos} (ha : SE g X W a (ev ce ta)) (hb : SE g X W (.BoolOp .And (b :: rest) pos) (ev ce tb)) : SE g X W (.BoolOp .And (a :: b :: rest) pos) (ev ce (.and ta tb)) := by
  intro e σ Hb H Q I h
  unfold ev at h
  refine tW_of (pe_and (pe_W X a) (pe_W X _)) ?_
  refine ha e σ Hb H _ I (CA.bind early_V h fun v1 e1 x1 Hb1 H1 p1 r1 h1 => ?_)
  obtain ⟨d, t, q1, q2, k⟩ := CA.op1 h1
  refine ⟨t, (r1.read p1.st q1).bool q2, ?_⟩
  cases t with
  | false => exact k _ _ _ (.refl p1.st) (blV_rv _)
  | true => exact hb e1 σ Hb1 H1 Q p1.st k
theorem se_or {a b : Expr} {rest : List Expr} {ta tb : T} {pos : Pos} (ha : SE g X W a (ev ce ta)) (hb : SE g X W (.BoolOp .Or (b :: rest) pos) (ev ce tb)) : SE g X W (.BoolOp .Or (a :: b :: rest) pos) (ev ce (.or ta tb)) := by
  intro e σ Hb H Q I h
  unfold ev at h
  refine tW_of (pe_or (pe_W X a) (pe_W X _)) ?_
  refine ha e σ Hb H _ I (CA.bind early_V h fun v1 e1 x1 Hb1 H1 p1 r1 h1 => ?_)
  obtain ⟨d, t, q1, q2, k⟩ := CA.op1 h1
  refine ⟨t, (r1.read p1.st q1).bool q2, ?_⟩
  cases t with
  | true => exact k _ _ _ (.refl p1.st) (blV_rv _)
  | false => exact hb e1 σ Hb1 H1 Q p1.st k
theorem se_one {op : BoolOp} {a : Expr} {ta : T} {pos : Pos} (ha : SE g X W a (ev ce ta)) : SE g X W (.BoolOp op [a] pos) (ev ce ta) := fun e σ Hb H Q I h => tW_of (pe_one (pe_W X a)) (ha e σ Hb H Q I h)
theorem se_not {a : Expr} {ta : T} {pos : Pos} (ha : SE g X W a (ev ce ta)) : SE g X W (.UnaryOp .Not a pos) (ev ce (.not ta)) := by
  intro e σ Hb H Q I h
  unfold ev at h
  refine tW_of (pe_not (pe_W X a)) ?_
  refine ha e σ Hb H _ I (CA.bind early_V h fun v1 e1 x1 Hb1 H1 p1 r1 h1 => ?_)
  obtain ⟨d, t, q1, q2, k⟩ := CA.op1 h1
  exact ⟨t, (r1.read p1.st q1).bool q2, k _ _ _ (.refl p1.st) (blV_rv _)⟩
theorem se_neg {a : Expr} {ta : T} {pos : Pos} (ha : SE g X W a (ev ce ta)) : SE g X W (.UnaryOp .USub a pos) (ev ce (.neg ta)) := by
  intro e σ Hb H Q I h
  unfold ev at h
  refine tW_of (pe_un un_neg (pe_W X a)) ?_
  refine ha e σ Hb H _ I (CA.bind early_V h fun v1 e1 x1 Hb1 H1 p1 r1 h1 => ?_)
  obtain ⟨d, v, q1, q2, k⟩ := CA.op1' h1
  have r := r1.read p1.st q1
  cases d <;> first | (cases q2; done) | skip
  cases q2
  exact ⟨_, r, k _ _ _ (.refl p1.st) rfl⟩
theorem se_ite {c a b : Expr} {tc ta tb : T} {pos : Pos} (hc : ST g X W c (evT ce tc)) (ha : SE g X W a (ev ce ta)) (hb : SE g X W b (ev ce tb)) : SE g X W (.IfExp c a b pos) (ev ce (.ite tc ta tb)) := by
  intro e σ Hb H Q I h
  unfold ev at h
  refine tW_of (pe_ifExp (pt_W X c) (pe_W X a) (pe_W X b)) ?_
  refine hc e σ Hb H _ I (CA.bind early_V h fun t e1 x1 Hb1 H1 p1 r1 h1 => ?_)
  subst r1
  cases x1 with
  | true => exact ha e1 σ Hb1 H1 Q p1.st h1
  | false => exact hb e1 σ Hb1 H1 Q p1.st h1

/-! ### tests -/
theorem st_and {a b : Expr} {rest : List Expr} {ta tb : T} {pos : Pos} (ha : ST g X W a (evT ce ta)) (hb : ∀ wh, ∀ e σ Hb H (Q : Bool → Hp → Prop), VS g Hb e σ H → CA PQ g W σ Hb H e (evT ce tb e) Q → ∀ pins s, Inv X pins σ H s → wpAny (model X.prog X.w) X.A (isTrue (.BoolOp .And (b :: rest) pos) X.env wh) (TP X pins σ Q) X.xe s) :
    ∀ wh, ∀ e σ Hb H (Q : Bool → Hp → Prop), VS g Hb e σ H → CA PQ g W σ Hb H e (evT ce (.and ta tb) e) Q → ∀ pins s, Inv X pins σ H s → wpAny (model X.prog X.w) X.A (isTrue (.BoolOp .And (a :: b :: rest) pos) X.env wh) (TP X pins σ Q) X.xe s := by
  intro wh e σ Hb H Q I h pins s J
  unfold evT at h
  refine (pw_and (tB' := fun σ H Q => ∀ wh pins s, Inv X pins σ H s → wpAny (model X.prog X.w) X.A (isTrue (.BoolOp .And (b :: rest) pos) X.env wh) (TP X pins σ Q) X.xe s) (pt_W X a) ⟨fun wh pins s σ H Q I h => h wh pins s I⟩).run wh pins s σ H Q J ?_
  refine ha e σ Hb H _ I (CA.bind early_Q h fun t e1 x1 Hb1 H1 p1 r1 h1 => ?_)
  subst r1
  cases x1 with
  | true => exact fun wh pins s J' => hb wh e1 σ Hb1 H1 Q p1.st h1 pins s J'
  | false => exact h1 _ _ _ (.refl p1.st) rfl
theorem st_or {a b : Expr} {rest : List Expr} {ta tb : T} {pos : Pos} (ha : ST g X W a (evT ce ta)) (hb : ∀ wh, ∀ e σ Hb H (Q : Bool → Hp → Prop), VS g Hb e σ H → CA PQ g W σ Hb H e (evT ce tb e) Q → ∀ pins s, Inv X pins σ H s → wpAny (model X.prog X.w) X.A (isTrue (.BoolOp .Or (b :: rest) pos) X.env wh) (TP X pins σ Q) X.xe s) :
    ∀ wh, ∀ e σ Hb H (Q : Bool → Hp → Prop), VS g Hb e σ H → CA PQ g W σ Hb H e (evT ce (.or ta tb) e) Q → ∀ pins s, Inv X pins σ H s → wpAny (model X.prog X.w) X.A (isTrue (.BoolOp .Or (a :: b :: rest) pos) X.env wh) (TP X pins σ Q) X.xe s := by
  intro wh e σ Hb H Q I h pins s J
  unfold evT at h
  refine (pw_or (tB' := fun σ H Q => ∀ wh pins s, Inv X pins σ H s → wpAny (model X.prog X.w) X.A (isTrue (.BoolOp .Or (b :: rest) pos) X.env wh) (TP X pins σ Q) X.xe s) (pt_W X a) ⟨fun wh pins s σ H Q I h => h wh pins s I⟩).run wh pins s σ H Q J ?_
  refine ha e σ Hb H _ I (CA.bind early_Q h fun t e1 x1 Hb1 H1 p1 r1 h1 => ?_)
  subst r1
  cases x1 with
  | false => exact fun wh pins s J' => hb wh e1 σ Hb1 H1 Q p1.st h1 pins s J'
  | true => exact h1 _ _ _ (.refl p1.st) rfl
theorem st_last {op : BoolOp} {a : Expr} {ta : T} {pos : Pos} (ha : ST g X W a (evT ce ta)) : ∀ wh, ∀ e σ Hb H (Q : Bool → Hp → Prop), VS g Hb e σ H → CA PQ g W σ Hb H e (evT ce ta e) Q → ∀ pins s, Inv X pins σ H s → wpAny (model X.prog X.w) X.A (isTrue (.BoolOp op [a] pos) X.env wh) (TP X pins σ Q) X.xe s := by
  intro wh e σ Hb H Q I h pins s J
  cases op with
  | And => exact (pw_and1 (pt_W X a)).run wh pins s σ H Q J (ha e σ Hb H Q I h)
  | Or => exact (pw_or1 (pt_W X a)).run wh pins s σ H Q J (ha e σ Hb H Q I h)
theorem st_not {a : Expr} {ta : T} {pos : Pos} (ha : ST g X W a (evT ce ta)) : ST g X W (.UnaryOp .Not a pos) (evT ce (.not ta)) := by
  intro e σ Hb H Q I h
  unfold evT at h
  refine tWT_of (pt_not (pt_W X a)) ?_
  refine ha e σ Hb H _ I (CA.bind early_Q h fun t e1 x1 Hb1 H1 p1 r1 h1 => ?_)
  subst r1
  exact h1 _ _ _ (.refl p1.st) rfl
theorem RR.tru {Hb H : Hp} {d : D} {x : V} {t : Bool} (hK : X.K = g.K) (e : Ex Hb H) (r : RR g Hb H d x) (h : tru d = some t) : TruV X.K x H t := by
  cases d with
  | non => cases h; cases r; rfl
  | bl b => cases h; cases r; rfl
  | int i => cases h; cases r; rfl
  | str l =>
    cases h
    have r' : x = .str (sT l) ∧ l.length ≤ sizeLine := r
    rw [r'.1]
    refine ⟨by rw [len_sT]; exact r'.2, ?_⟩
    rw [len_sT]
    cases l <;> rfl
  | tup l =>
    cases h
    obtain ⟨a, vs, rfl, h1, h2⟩ := r
    refine .inr (.inl ⟨vs, by rw [hK]; exact e.sqt h1, ?_⟩)
    have := h2.length
    cases l <;> cases vs <;> first | rfl | (cases this)
  | lst l =>
    cases h
    obtain ⟨a, vs, rfl, h1, h2⟩ := r
    refine .inl ⟨vs, by rw [hK]; exact h1, ?_⟩
    have := h2.length
    cases l <;> cases vs <;> first | rfl | (cases this)
  | dct l =>
    cases h
    obtain ⟨a, vs, rfl, h1, h2⟩ := r
    refine .inr (.inr ⟨vs, h1, ?_⟩)
    have := rpk_len h2
    cases l <;> cases vs <;> first | rfl | (cases this)
  | ins c l => cases h
/-- an expression as a test, by its truth -/
theorem st_val {a : Expr} {ta : T} (G : Good g kk X W) (ha : SE g X W a (ev ce ta)) (he : ∀ whole, isTrue a X.env whole = (do let v ← whole; standAt a.pos; holding [v] (truthy v))) (ht : ∀ e, evT ce ta e = (ev ce ta e).bind fun x e => op1 tru x e) : ST g X W a (evT ce ta) := by
  intro e σ Hb H Q I h
  rw [ht] at h
  refine tWT_of (pt_truth (pe_W X a) he) ?_
  refine ha e σ Hb H _ I (CA.bind early_Q h fun v1 e1 x1 Hb1 H1 p1 r1 h1 => ?_)
  obtain ⟨d, t, q1, q2, k⟩ := CA.op1' h1
  exact ⟨t, RR.tru G.hK p1.st.ex (r1.read p1.st q1) q2, k _ _ _ (.refl p1.st) rfl⟩
/-- one comparison as a test -/
theorem evT_cmp (o : Cq) (ta tb : T) (e : VE) : evT ce (.cmp o ta tb) e = (ev ce ta e).bind fun x e => (ev ce tb e).bind fun y e => op2 (cop o) x y e := by
  simp only [evT]
  rw [ev]
  cases ev ce ta e with
  | ok v1 e1 =>
    dsimp only [R.bind]
    cases ev ce tb e1 with
    | ok v2 e2 =>
      dsimp only [R.bind]
      cases op2 (cop o) v1 v2 e2 <;> rfl
    | rz x e' => rfl
    | no => rfl
  | rz x e' => rfl
  | no => rfl
theorem st_cmp {o : Cq} {a b : Expr} {ta tb : T} {pos : Pos} (G : Good g kk X W) (hm : behindInMarks (cq o) b = false) (ha : SE g X W a (ev ce ta)) (hb : SE g X W b (ev ce tb)) : ST g X W (.Compare a [cq o] [b] pos) (evT ce (.cmp o ta tb)) := by
  intro e σ Hb H Q I h
  rw [evT_cmp] at h
  refine tWT_of (pt_cmpR (op_W X _) (pe_W X a) (pe_W X b) hm) ?_
  refine ha e σ Hb H _ I (CA.bind early_Q h fun v1 e1 x1 Hb1 H1 p1 r1 h1 => ?_)
  refine hb e1 σ Hb1 H1 _ p1.st (CA.bind early_Q h1 fun v2 e2 x2 Hb2 H2 p2 r2 h2 => ?_)
  obtain ⟨d1, d2, v, q1, q2, q3, k⟩ := CA.op2' h2
  have r1' := r1.step p2
  refine cop_ok G.hK G.hu q3 e2 σ Hb2 H2 x1 x2 _ p2.st (r1'.read p2.st q1) (r2.read p2.st q2) fun z Hb3 H3 p3 r3 => ?_
  exact ⟨v, r3, k _ _ _ p3 rfl⟩
theorem evT_chn (o o' : Cq) (ta tb tc : T) (e : VE) : evT ce (.chn o o' ta tb tc) e = (ev ce ta e).bind fun x e => (ev ce tb e).bind fun y e => (op2 (cop o) x y e).bind fun t e =>
      if t = true then (ev ce tc e).bind fun z e => op2 (cop o') y z e else .ok false e := by
  simp only [evT]
  rw [ev]
  cases ev ce ta e with
  | ok v1 e1 =>
    dsimp only [R.bind]
    cases ev ce tb e1 with
    | ok v2 e2 =>
      dsimp only [R.bind]
      cases op2 (cop o) v1 v2 e2 with
      | ok t e3 =>
        cases t with
        | false => rfl
        | true =>
          dsimp only [R.bind]
          rw [if_pos rfl, if_pos rfl]
          cases ev ce tc e3 with
          | ok v3 e4 =>
            dsimp only [R.bind]
            cases op2 (cop o') v2 v3 e4 <;> rfl
          | rz x e' => rfl
          | no => rfl
      | rz x e' => rfl
      | no => rfl
    | rz x e' => rfl
    | no => rfl
  | rz x e' => rfl
  | no => rfl
theorem st_chn {o o' : Cq} {a b c : Expr} {ta tb tc : T} {pos : Pos} (G : Good g kk X W) (hm : lastMarks [cq o, cq o'] [b, c] = false) (ha : SE g X W a (ev ce ta)) (hb : SE g X W b (ev ce tb)) (hc : SE g X W c (ev ce tc)) :
    ST g X W (.Compare a [cq o, cq o'] [b, c] pos) (evT ce (.chn o o' ta tb tc)) := by
  intro e σ Hb H Q I h
  rw [evT_chn] at h
  refine tWT_of (pt_chain (op_W X _) (op_W X _) (pe_W X a) (pe_W X b) (pe_W X c) hm) ?_
  refine ha e σ Hb H _ I (CA.bind early_Q h fun v1 e1 x1 Hb1 H1 p1 r1 h1 => ?_)
  refine hb e1 σ Hb1 H1 _ p1.st (CA.bind early_Q h1 fun v2 e2 x2 Hb2 H2 p2 r2 h2 => ?_)
  obtain ⟨d1, d2, t, q1, q2, q3, k⟩ := CA.op2 h2
  have r1' := r1.step p2
  refine cop_ok G.hK G.hu q3 e2 σ Hb2 H2 x1 x2 _ p2.st (r1'.read p2.st q1) (r2.read p2.st q2) fun z Hb3 H3 p3 r3 => ?_
  have r3' : z = .bl t := r3
  refine ⟨t, r3', ?_⟩
  have k3 := CA.shift early_Q p3 k
  cases t with
  | false =>
    rw [if_neg (by decide)] at k3 ⊢
    exact ⟨false, rfl, k3 _ _ _ (.refl p3.st) rfl⟩
  | true =>
    rw [if_pos rfl] at k3 ⊢
    refine hc e2 σ Hb3 H3 _ p3.st (CA.bind early_Q k3 fun v4 e4 x4 Hb4 H4 p4 r4 h4 => ?_)
    obtain ⟨d3, d4, t', q4, q5, q6, k'⟩ := CA.op2' h4
    have r2' := (r2.step p3).step p4
    exact cop_ok G.hK G.hu q6 e4 σ Hb4 H4 x2 x4 _ p4.st (r2'.read p4.st q4) (r4.read p4.st q5) fun z Hb5 H5 p5 r5 => ⟨t', r5, k' _ _ _ p5 rfl⟩

/-! ### rows of expressions; displays -/
theorem sa_nil : SA g X W [] (evs ce []) := by
  intro e σ Hb H Q I h
  refine tWA_of pa_nil ?_
  unfold evs at h
  exact h [] Hb H (.refl I) rfl
theorem RVs.get {H0 Hb H : Hp} {e : VE} {σ : L2.St} : ∀ {vs : List Val} {xs : List V} {j : Nat} {v : Val}, RVs g H0 Hb H e σ vs xs → vs[j]? = some v → ∃ x, xs[j]? = some x ∧ RV g H0 Hb H e σ v x
  | [], _, _, _, _, q => by simp at q
  | w :: l, _, 0, v, h, q => by
    obtain ⟨x, r, rfl, h1, h2, h3⟩ := h
    simp at q; subst q
    exact ⟨x, rfl, h1⟩
  | w :: l, _, j + 1, v, h, q => by
    obtain ⟨x, r, rfl, h1, h2, h3⟩ := h
    obtain ⟨y, e1, e2⟩ := RVs.get (j := j) h2 (by simpa using q)
    exact ⟨y, by simpa using e1, e2⟩
theorem RVs.cons {H0 Hb1 H1 Hb2 H2 : Hp} {e1 e2 : VE} {σ : L2.St} {v : Val} {x : V} {vs : List Val} {xs : List V} (r1 : RV g H0 Hb1 H1 e1 σ v x) (p2 : PK g σ Hb1 H1 e1 Hb2 H2 e2) (t : ∀ a, H1 a = none → H0 a = none) (r2 : RVs g H1 Hb2 H2 e2 σ vs xs) : RVs g H0 Hb2 H2 e2 σ (v :: vs) (x :: xs) := by
  refine ⟨x, xs, rfl, r1.step p2, r2.early t, fun c hc j c' q z => ?_⟩
  subst hc
  obtain ⟨a, rfl, _, _, ro, _⟩ := r1
  obtain ⟨y, e3, r3⟩ := r2.get q
  rw [z] at e3
  cases e3
  obtain ⟨b, eb, h0, _⟩ := r3
  cases eb
  obtain ⟨o, ho, _⟩ := ro.there
  rw [ho] at h0; cases h0
theorem sa_cons {a : Expr} {es : List Expr} {ta : T} {ts : List T} (ha : SE g X W a (ev ce ta)) (hr : SA g X W es (evs ce ts)) (hs : starEach (a :: es) X.env = (false, eval a X.env) :: starEach es X.env) : SA g X W (a :: es) (evs ce (ta :: ts)) := by
  intro e σ Hb H Q I h
  refine tWA_of (pa_cons (pe_W X a) (pa_W X es) hs) ?_
  rw [evs] at h
  refine ha e σ Hb H _ I ?_
  cases q1 : ev ce ta e with
  | ok v1 e1 =>
    rw [q1] at h
    intro x1 Hb1 H1 p1 r1
    refine hr e1 σ Hb1 H1 _ p1.st ?_
    dsimp only [R.bind] at h
    cases q2 : evs ce ts e1 with
    | ok v2 e2 =>
      rw [q2] at h
      intro x2 Hb2 H2 p2 r2
      exact h (x1 :: x2) Hb2 H2 (p1.trans p2) (RVs.cons r1 p2 p1.vp.t r2)
    | rz xd e2 =>
      rw [q2] at h
      exact fun cls d Hb' H' p2 rx => h cls d Hb' H' (p1.trans p2) rx
    | no => rw [q2] at h; exact h
  | rz xd e1 => rw [q1] at h; exact h
  | no => rw [q1] at h; exact h
/-- a row, then all of it kept -/
theorem keep_all {es : List Expr} {ts : List T} {γ δ : Type} {Pb : Hp → Hp → Hp → VE → γ → δ → Prop} {f : List D → VE → R γ} {lim : List D × VE → Option (List D × VE)} (hlim : ∀ p q, lim p = some q → q = p) (hP : Early Pb) (ha : SA g X W es (evs ce ts)) {e : VE} {σ : L2.St} {Hb H : Hp} {Q : δ → Hp → Prop} {Q' : List V → Hp → Prop} (I : VS g Hb e σ H)
    (h : CA Pb g W σ Hb H e ((evs ce ts e).bind fun vs e => (ofP ((fzs vs e).bind lim)).bind f) Q)
    (k : ∀ ds e1 xs Hb1 H1, PK g σ Hb H e Hb1 H1 e1 → Rps g Hb1 ds xs → lim (ds, e1) = some (ds, e1) → CA Pb g W σ Hb1 H1 e1 (f ds e1) Q → Q' xs H1) : tWA X es σ H Q' := by
  refine ha e σ Hb H _ I ?_
  cases q1 : evs ce ts e with
  | ok vs e1 =>
    rw [q1] at h
    intro xs Hb1 H1 p1 r1
    dsimp only [R.bind] at h
    cases q2 : fzs vs e1 with
    | none => rw [q2] at h; exact h.elim
    | some y =>
      obtain ⟨ds, e2⟩ := y
      rw [q2] at h
      cases q3 : lim (ds, e2) with
      | none => rw [show (some (ds, e2)).bind lim = lim (ds, e2) from rfl, q3] at h; exact h.elim
      | some y =>
        have q4 := hlim _ _ q3
        subst q4
        rw [show (some (ds, e2)).bind lim = lim (ds, e2) from rfl, q3] at h
        obtain ⟨Hb2, p2, b2, k2⟩ := RVs.keep p1 r1
        obtain ⟨Hb3, p3, b3, s3⟩ := fzs_ok p2 k2 q2
        exact k ds e2 xs Hb3 H1 p3 s3 q3 (CA.shift hP p3 h)
  | rz xd e1 => rw [q1] at h; exact h
  | no => rw [q1] at h; exact h
theorem short_eq (p q : List D × VE) (h : short p = some q) : q = p := by
  unfold short at h
  split at h
  · exact (Option.some.inj h).symm
  · cases h
theorem short_le {p q : List D × VE} (h : short p = some q) : p.1.length ≤ sizeLine := by
  unfold short at h
  split at h
  · rw [← line_eq]; assumption
  · cases h
theorem se_tup {es : List Expr} {ts : List T} {k : Nat} {pos : Pos} (ha : SA g X W es (evs ce ts)) : SE g X W (.Tuple es k pos) (ev ce (.tup ts)) := by
  intro e σ Hb H Q I h
  rw [ev] at h
  refine tW_of (pe_tup (pa_W X es)) ?_
  refine keep_all short_eq early_V ha I h fun ds e1 xs Hb1 H1 p1 r1 hz h1 => ?_
  refine ⟨by rw [r1.length]; exact short_le hz, fun n hn => ?_⟩
  have hb := p1.st.ex.back hn
  exact h1 _ _ _ (.new p1.st hn) ⟨n, _, rfl, .of upd_same, Rps.mono (.new hb) _ _ r1⟩
theorem se_lst {es : List Expr} {ts : List T} {pos : Pos} (ha : SA g X W es (evs ce ts)) : SE g X W (.List es pos) (ev ce (.lst ts)) := by
  intro e σ Hb H Q I h
  rw [ev] at h
  refine tW_of (pe_lst (pa_W X es)) ?_
  refine keep_all short_eq early_V ha I h fun ds e1 xs Hb1 H1 p1 r1 hz h1 => ?_
  refine ⟨by rw [r1.length]; exact short_le hz, fun n hn => ?_⟩
  exact h1 _ _ _ (.temp p1.st hn) (RV.temp p1.st hn ⟨_, upd_same, r1⟩)
end
end Vd
/-! Vd6: calls of built-ins, subscripts, slices. -/
namespace Vd
open PySem PySem.Spec PyProof.Rows L2

section
variable {g : Gx} {kk : Nat} {X : Cx} {W : WX} {ce : CE} {σ : L2.St} {H0 Hb H : Hp} {e : VE}
def RRs (g : Gx) (Hb H : Hp) : List D → List V → Prop
  | [], xs => xs = []
  | d :: l, xs => ∃ x r, xs = x :: r ∧ RR g Hb H d x ∧ RRs g Hb H l r
theorem RVs.reads (I : VS g Hb e σ H) : ∀ {vs : List Val} {xs : List V} {ds : List D}, RVs g H0 Hb H e σ vs xs → rds e vs = some ds → RRs g Hb H ds xs
  | [], _, _, h, k => by cases k; exact h
  | v :: l, _, _, h, k => by
    obtain ⟨x, r, rfl, h1, h2, _⟩ := h
    unfold rds at k
    cases q : rd e v with
    | none => rw [q] at k; cases k
    | some d =>
      rw [q] at k
      dsimp only [Option.bind] at k
      cases q2 : rds e l with
      | none => rw [q2] at k; cases k
      | some ds =>
        rw [q2] at k
        cases k
        exact ⟨x, r, rfl, h1.read I q, RVs.reads I h2 q2⟩
def cW (X : Cx) (f : Value) : List V → Hp → VK → Prop := fun xs H Q => ∀ pins s σ us, Inv X pins σ H s → Vals xs us → wpAny (model X.prog X.w) X.A (call f us) (EP X pins σ Q) X.xe s
theorem call_W (X : Cx) (f : Value) : CallR X f (cW X f) := fun pins s σ H xs us Q I r h => h pins s σ us I r
theorem cW_of {f : Value} {r : List V → Hp → VK → Prop} (h : CallR X f r) {xs : List V} {H : Hp} {Q : VK} (q : r xs H Q) : cW X f xs H Q := fun pins s σ us I rv => h pins s σ H xs us Q I rv q
def bval : B1 → Value
  | .len => .builtin "len"
  | .int => .type "int"
  | .str => .type "str"
  | .bool => .type "bool"
  | .tuple => .type "tuple"
  | .list => .type "list"
  | .all => .builtin "all"
  | .any => .builtin "any"
  | .sum => .builtin "sum"
  | .ord => .builtin "ord"
  | .chr => .builtin "chr"
  | .repr => .builtin "repr"
  | .setlen => .none
  | .max => .builtin "max"
  | .min => .builtin "min"
  | .abs => .builtin "abs"
/-- a function of data is sound -/
def FOk (g : Gx) (X : Cx) (f : Value) (ds : List D) (v : Val) : Prop :=
  ∀ e σ Hb H xs (Q : VK), VS g Hb e σ H → RRs g Hb H ds xs → (∀ z Hb' H', PK g σ Hb H e Hb' H' e → RV g H Hb' H' e σ v z → Q z H') → cW X f xs H Q
theorem bls_of {Hb : Hp} : ∀ {l : List D} {vs : List V} {b : Bool}, Rps g Hb l vs → allB l = some b → ∃ bs : List Bool, vs = bs.map V.bl ∧ b = bs.all id
  | [], _, _, h, k => by cases k; cases h; exact ⟨[], rfl, rfl⟩
  | d :: l, _, b, h, k => by
    obtain ⟨v, r, rfl, h1, h2⟩ := h
    cases d <;> first | (cases k; done) | skip
    rename_i c
    simp only [allB] at k
    cases q : allB l with
    | none => rw [q] at k; cases k
    | some b' =>
      rw [q] at k
      cases k
      obtain ⟨bs, rfl, rfl⟩ := bls_of h2 q
      cases h1
      exact ⟨c :: bs, rfl, rfl⟩
theorem bls_of' {Hb : Hp} : ∀ {l : List D} {vs : List V} {b : Bool}, Rps g Hb l vs → anyB l = some b → ∃ bs : List Bool, vs = bs.map V.bl ∧ b = bs.any id
  | [], _, _, h, k => by cases k; cases h; exact ⟨[], rfl, rfl⟩
  | d :: l, _, b, h, k => by
    obtain ⟨v, r, rfl, h1, h2⟩ := h
    cases d <;> first | (cases k; done) | skip
    rename_i c
    simp only [anyB] at k
    cases q : anyB l with
    | none => rw [q] at k; cases k
    | some b' =>
      rw [q] at k
      cases k
      obtain ⟨bs, rfl, rfl⟩ := bls_of' h2 q
      cases h1
      exact ⟨c :: bs, rfl, rfl⟩
theorem ints_of {Hb : Hp} : ∀ {l : List D} {vs : List V} {ns : List Int}, Rps g Hb l vs → intsD l = some ns → vs = ns.map V.int
  | [], _, _, h, k => by cases k; cases h; rfl
  | d :: l, _, b, h, k => by
    obtain ⟨v, r, rfl, h1, h2⟩ := h
    cases d <;> first | (cases k; done) | skip
    rename_i c
    simp only [intsD] at k
    cases q : intsD l with
    | none => rw [q] at k; cases k
    | some b' =>
      rw [q] at k
      cases k
      rw [ints_of h2 q]
      cases h1
      rfl
theorem RRs.one {d : D} {xs : List V} (h : RRs g Hb H [d] xs) : ∃ x, xs = [x] ∧ RR g Hb H d x := by
  obtain ⟨x, r, rfl, h1, h2⟩ := h
  cases h2
  exact ⟨x, rfl, h1⟩
theorem RRs.two {d d' : D} {xs : List V} (h : RRs g Hb H [d, d'] xs) : ∃ x y, xs = [x, y] ∧ RR g Hb H d x ∧ RR g Hb H d' y := by
  obtain ⟨x, r, rfl, h1, h2⟩ := h
  obtain ⟨y, rfl, h3⟩ := h2.one
  exact ⟨x, y, rfl, h1, h3⟩
theorem bfn_ok (G : Good g kk X W) {b : B1} {ds : List D} {v : Val} (hb : b ≠ .setlen) (h : bfn b ds = some v) : FOk g X (bval b) ds v := by
  unfold bfn at h
  split at h
  · rename_i d
    intro e σ Hb H xs Q I rs q
    obtain ⟨x, rfl, r⟩ := rs.one
    cases hn : lenD d with
    | none => rw [hn] at h; cases h
    | some n =>
      rw [hn] at h
      cases h
      refine cW_of call_len ⟨x, n, rfl, ?_, q _ _ _ (.refl I) rfl⟩
      cases d <;> first | (cases hn; done) | skip
      · cases hn
        have r' : x = .str (sT _) ∧ _ := r
        obtain ⟨rfl, r2⟩ := r'
        exact ⟨by rw [len_sT]; exact r2, by rw [len_sT]⟩
      · cases hn
        obtain ⟨a, vs, rfl, h1, h2⟩ := r
        exact .inr ⟨vs, by rw [G.hK]; exact I.ex.sqt h1, h2.length.symm⟩
      · cases hn
        obtain ⟨a, vs, rfl, h1, h2⟩ := r
        exact .inl ⟨vs, by rw [G.hK]; exact h1, h2.length.symm⟩
  · cases h
    intro e σ Hb H xs Q I rs q
    obtain ⟨x, rfl, r⟩ := rs.one
    cases r
    exact cW_of call_int1 (.inl ⟨_, rfl, q _ _ _ (.refl I) rfl⟩)
  · cases h
    intro e σ Hb H xs Q I rs q
    obtain ⟨x, rfl, r⟩ := rs.one
    cases r
    exact cW_of call_int1 (.inr ⟨_, rfl, q _ _ _ (.refl I) rfl⟩)
  · cases h
    intro e σ Hb H xs Q I rs q
    obtain ⟨x, rfl, r⟩ := rs.one
    obtain ⟨a, vs, rfl, h1, h2⟩ := r
    refine cW_of call_tuple_of ⟨a, vs, rfl, .inl ⟨by rw [G.hK]; exact h1, fun n hn => ?_⟩⟩
    have hb := I.ex.back hn
    exact q _ _ _ (.new I hn) ⟨n, _, rfl, .of upd_same, Rps.mono (.new hb) _ _ h2⟩
  · cases h
    intro e σ Hb H xs Q I rs q
    obtain ⟨x, rfl, r⟩ := rs.one
    obtain ⟨a, vs, rfl, h1, h2⟩ := id r
    exact cW_of call_tuple_of ⟨a, vs, rfl, .inr ⟨by rw [G.hK]; exact I.ex.sqt h1, q _ _ _ (.refl I) r⟩⟩
  · cases h
    intro e σ Hb H xs Q I rs q
    obtain ⟨x, rfl, r⟩ := rs.one
    obtain ⟨a, vs, rfl, h1, h2⟩ := r
    exact cW_of call_list_of ⟨a, vs, rfl, .inl (by rw [G.hK]; exact h1), fun n hn => q _ _ _ (.temp I hn) (RV.temp I hn ⟨_, upd_same, h2⟩)⟩
  · cases h
    intro e σ Hb H xs Q I rs q
    obtain ⟨x, rfl, r⟩ := rs.one
    obtain ⟨a, vs, rfl, h1, h2⟩ := r
    exact cW_of call_list_of ⟨a, vs, rfl, .inr (by rw [G.hK]; exact I.ex.sqt h1), fun n hn => q _ _ _ (.temp I hn) (RV.temp I hn ⟨_, upd_same, h2⟩)⟩
  · rename_i l
    intro e σ Hb H xs Q I rs q
    obtain ⟨x, rfl, r⟩ := rs.one
    obtain ⟨a, vs, rfl, h1, h2⟩ := r
    cases hn : allB l with
    | none => rw [hn] at h; cases h
    | some b =>
      rw [hn] at h
      cases h
      obtain ⟨bs, rfl, rfl⟩ := bls_of h2 hn
      exact cW_of (cr_all G.calm) ⟨a, bs, rfl, by rw [G.hK]; exact h1, q _ _ _ (.refl I) rfl⟩
  · rename_i l
    intro e σ Hb H xs Q I rs q
    obtain ⟨x, rfl, r⟩ := rs.one
    obtain ⟨a, vs, rfl, h1, h2⟩ := r
    cases hn : anyB l with
    | none => rw [hn] at h; cases h
    | some b =>
      rw [hn] at h
      cases h
      obtain ⟨bs, rfl, rfl⟩ := bls_of' h2 hn
      exact cW_of (cr_any G.calm) ⟨a, bs, rfl, by rw [G.hK]; exact h1, q _ _ _ (.refl I) rfl⟩
  · rename_i l
    intro e σ Hb H xs Q I rs q
    obtain ⟨x, rfl, r⟩ := rs.one
    obtain ⟨a, vs, rfl, h1, h2⟩ := r
    cases hn : intsD l with
    | none => rw [hn] at h; cases h
    | some ns =>
      rw [hn] at h
      cases h
      have := ints_of h2 hn
      subst this
      exact cW_of (cr_sum G.calm) ⟨a, ns, rfl, by rw [G.hK]; exact h1, q _ _ _ (.refl I) rfl⟩
  · cases h
    intro e σ Hb H xs Q I rs q
    obtain ⟨x, rfl, r⟩ := rs.one
    cases r.1
    exact cW_of call_ord ⟨_, rfl, rfl, q _ _ _ (.refl I) rfl⟩
  · exact absurd rfl hb
  · cases h
    intro e σ Hb H xs Q I rs q
    obtain ⟨x, y, rfl, r, r'⟩ := rs.two
    cases r
    cases r'
    exact cW_of (call_min2 G.calm) ⟨_, _, rfl, q _ _ _ (.refl I) rfl⟩
  · cases h
    intro e σ Hb H xs Q I rs q
    obtain ⟨x, y, rfl, r, r'⟩ := rs.two
    cases r
    cases r'
    exact cW_of (call_max2 G.calm) ⟨_, _, rfl, q _ _ _ (.refl I) rfl⟩
  · cases h

/-! ### the name of a built-in, called -/
def noStar : Expr → Bool
  | .Starred _ _ => false
  | _ => true
theorem star1 {a : Expr} (h : noStar a = true) (es : List Expr) (env : Env) : starEach (a :: es) env = (false, eval a env) :: starEach es env := by
  cases a <;> first | rfl | (cases h; done)
theorem plain_es {env : Env} {pos : Pos} : ∀ {es : List Expr}, es.all noStar = true → (backTo pos (starEach es env)).any (·.1) = false
  | [], _ => rfl
  | a :: l, h => by
    rw [List.all_cons, Bool.and_eq_true] at h
    rw [star1 h.1]
    have ih := plain_es (env := env) (pos := pos) h.2
    unfold backTo at ih ⊢
    rw [List.map_cons, List.any_cons, ih]
    rfl
end
end Vd
/-! Vd7: built-ins called by name, isinstance, subscripts, slices, displays of dicts, methods of lists: sound. -/
namespace Vd
open PySem PySem.Spec PyProof.Rows L2

section
variable {g : Gx} {kk : Nat} {X : Cx} {W : WX} {ce : CE}
/-- arguments, read, then a function of data -/
theorem sa_fun {es : List Expr} {ts : List T} {f : Value} {fn : List D → Option Val} (ha : SA g X W es (evs ce ts)) (hf : ∀ ds v, fn ds = some v → FOk g X f ds v) {e : VE} {σ : L2.St} {Hb H : Hp} {Q : VK} (I : VS g Hb e σ H)
    (h : CA (PV g σ) g W σ Hb H e ((evs ce ts e).bind fun vs e => ofO ((rds e vs).bind fn) e) Q) : tCB (cW X f) (tWA X es) σ H Q := by
  refine ha e σ Hb H _ I (CA.bind early_V h fun vs e1 xs Hb1 H1 p1 r1 h1 => ?_)
  obtain ⟨v, q, k⟩ := CA.ofO' h1
  cases q2 : rds e1 vs with
  | none => rw [q2] at q; cases q
  | some ds =>
    rw [q2] at q
    exact hf ds v q e1 σ Hb1 H1 xs Q p1.st (r1.reads p1.st q2) k
theorem se_bi {b : B1} {a : Expr} {es : List Expr} {ts : List T} {x : Str} {p pos : Pos} (G : Good g kk X W) (hb : b ≠ .setlen) (hg : Gl X x) (hm : X.mg x = none) (hv : bootBuiltins x = some (bval b)) (hn : x ≠ "__name__") (hdb : (x == ("__debug__" : Str)) = false)
    (hs : (a :: es).all noStar = true) (ha : SA g X W (a :: es) (evs ce ts)) : SE g X W (.Call (.Name x p) (a :: es) [] pos) (ev ce (.bi b ts)) := by
  intro e σ Hb H Q I h
  rw [ev] at h
  rw [List.all_cons, Bool.and_eq_true] at hs
  have key := sa_fun (f := bval b) ha (fun ds v q => bfn_ok G hb q) I h
  have h1 := star1 hs.1 es X.env
  have h2 := plain_es (env := X.env) (pos := pos) hs.2
  cases b <;> first
    | exact tW_of (pe_callB (call_W X _) hg hm hv (pa_W X _) hn hdb h1 h2) key
    | exact tW_of (pe_callTy (call_W X _) hg hm hv (pa_W X _) hn hdb h1 h2) key
    | exact absurd rfl hb

/-! ### len(set(a)) -/
theorem ded_met (ns : List Int) : firstMet (fun i => ns.getD i 0) ns.length = dedI ns := by
  have e : (List.range ns.length).map (fun i => ns.getD i 0) = ns := by
    apply List.ext_getElem
    · simp
    · intro i h1 h2
      simp [List.getD_eq_getElem?_getD, List.getElem?_eq_getElem h2]
  show ((List.range ns.length).map (fun i => ns.getD i 0)).foldl step_dedup [] = dedI ns
  rw [e]
  rfl
theorem ints_vals : ∀ {ns : List Int} {us : List Value}, Vals (ns.map V.int) us → IntsAre us ns
  | [], _, .nil => .nil
  | n :: ns, _, .cons r t => by
    obtain ⟨k, rfl⟩ := r
    exact .cons n k (ints_vals t)
theorem len_ded (ns : List Int) : (dedI ns).length ≤ ns.length := by
  rw [← ded_met]
  exact firstMet_length_le _ _
def tLs (K : PySem.W.Frag) (ta : TE) : TE := fun σ H Q => ta σ H fun x H1 => ∃ (l : Addr) (ns : List Int), x = .ref l ∧ SqL K H1 l (ns.map V.int) ∧ ns.length ≤ 4000 ∧ Q (.int ((dedI ns).length : Nat)) H1
theorem pe_ls {a : Expr} {ta : TE} {p p2 q pos : Pos} (hg : Gl X "len") (hm : X.mg "len" = none) (hg2 : Gl X "set") (hm2 : X.mg "set" = none) (ha : PE X a ta) (hc : X.calm = true) (hs : noStar a = true) : PE X (.Call (.Name "len" p) [.Call (.Name "set" p2) [a] [] q] [] pos) (tLs X.K ta) := by
  have na := star1 hs [] X.env
  refine ⟨fun pins s σ H Q I h => Call_ (ld_blt I hg hm boot_len (callWith_builtin1 (args_cons ?_ rfl) rfl rfl))⟩
  refine Call_ (ld_blt I hg2 hm2 PyProof.Rows.boot_set ?_)
  refine callWith_type1 (args_cons (thn (ha.run pins s σ H _ I h) fun v s1 ⟨x, H1, I1, r1, l, ns, ex, hq, hl, q1⟩ => args_nil ?_) na) na rfl
  subst ex
  cases r1
  obtain ⟨its, r, pl, hz⟩ := I1.list hq
  have hlen : its.toArray.size = ns.length := by
    have := r.length
    rw [List.length_map] at this
    simp [this]
  refine call_set_list (I1.ok.hd hc) pl.isList (ns := ns) (by simpa using ints_vals r) (by rw [hlen]; unfold scanBound; omega) fun h' tk hS hk => args_nil ?_
  rw [hlen, ded_met] at hS
  obtain ⟨o, es, ep, t, ho, hex, hd, _, _, _, hf, hn⟩ := hS
  have I2 : Inv X pins σ H1 { s1 with heap := h', toks := tk } := I1.kept fun b o e => hk b o (Heap.lt_size e) e
  have le := len_ded ns
  exact call_len_set ho hex hd hf (by rw [hn] <;> omega) ⟨.int (dedI ns).length, H1, I2.tok _, ⟨_, by rw [hn]⟩, q1⟩
theorem se_ls {a : Expr} {ta : T} {p p2 q pos : Pos} (G : Good g kk X W) (hg : Gl X "len") (hm : X.mg "len" = none) (hg2 : Gl X "set") (hm2 : X.mg "set" = none) (hs : noStar a = true) (ha : SE g X W a (ev ce ta)) :
    SE g X W (.Call (.Name "len" p) [.Call (.Name "set" p2) [a] [] q] [] pos) (ev ce (.bi .setlen [ta])) := by
  intro e σ Hb H Q I h
  rw [ev] at h
  simp only [evs] at h
  refine tW_of (pe_ls hg hm hg2 hm2 (pe_W X a) G.calm hs) ?_
  refine ha e σ Hb H _ I ?_
  cases q1 : ev ce ta e with
  | rz x e' => rw [q1] at h; exact h
  | no => rw [q1] at h; exact h
  | ok v1 e1 =>
    rw [q1] at h
    intro x1 Hb1 H1 p1 r1
    have h1 : CA (PV g σ) g W σ Hb H e (ofO ((rds e1 [v1]).bind fun ds => bfn .setlen ds) e1) Q := h
    cases q2 : rd e1 v1 with
    | none => simp [rds, q2, CA] at h1
    | some d =>
      simp only [rds, q2, Option.bind, Option.map] at h1
      have r := r1.read p1.st q2
      cases d <;> first | (simp [bfn, CA] at h1; done) | skip
      rename_i l
      simp only [bfn] at h1
      cases q3 : intsD l with
      | none => simp [q3, CA] at h1
      | some ns =>
        simp only [q3, Option.bind] at h1
        by_cases hz : ns.length ≤ 4000
        · rw [if_pos hz] at h1
          obtain ⟨a, vs, rfl, e1, e2⟩ := r
          have := ints_of e2 q3
          subst this
          exact ⟨a, ns, rfl, by rw [G.hK]; exact e1, hz, h1 _ _ _ p1 rfl⟩
        · rw [if_neg hz] at h1; exact h1.elim
end
end Vd
/-! Vd8: isinstance, subscripts, slices. -/
namespace Vd
open PySem PySem.Spec PyProof.Rows L2

section
variable {g : Gx} {kk : Nat} {X : Cx} {W : WX} {ce : CE}
/-! ### isinstance -/
def tyN : Ty → String
  | .int => "int"
  | .str => "str"
  | .bool => "bool"
  | .tuple => "tuple"
  | .list => "list"
  | .dict => "dict"
  | .own _ => ""
def dN : D → String
  | .non => "NoneType"
  | .bl _ => "bool"
  | .int _ => "int"
  | .str _ => "str"
  | .tup _ => "tuple"
  | .lst _ => "list"
  | .dct _ => "dict"
  | .ins _ _ => ""
theorem kit_int : ∀ t : Ty, t = .int ∨ t = .str ∨ t = .bool ∨ t = .tuple ∨ t = .list ∨ t = .dict →
    kitB "NoneType" (tyN t) = some false ∧ kitB "bool" (tyN t) = some (t == .int || t == .bool) ∧ kitB "int" (tyN t) = some (t == .int) ∧ kitB "str" (tyN t) = some (t == .str) ∧
    kitB "tuple" (tyN t) = some (t == .tuple) ∧ kitB "list" (tyN t) = some (t == .list) ∧ kitB "dict" (tyN t) = some (t == .dict) := by
  intro t h
  rcases h with h | h | h | h | h | h <;> subst h <;> decide +kernel
theorem isTy_kit {K : PySem.W.Frag} {d : D} {t : Ty} {b : Bool} (h : isTy d t = some b) : PySem.W.kitOne K (.type (dN d)) (.type (tyN t)) = some b := by
  apply kit_ty
  cases t with
  | own c => cases d <;> cases h
  | _ =>
    obtain ⟨h1, h2, h3, h4, h5, h6, h7⟩ := kit_int _ (by first | exact .inl rfl | exact .inr (.inl rfl) | exact .inr (.inr (.inl rfl)) | exact .inr (.inr (.inr (.inl rfl))) | exact .inr (.inr (.inr (.inr (.inl rfl)))) | exact .inr (.inr (.inr (.inr (.inr rfl)))))
    cases d <;> first
      | (cases h; done)
      | (cases h; first | exact h1 | exact h2 | exact h3 | exact h4 | exact h5 | exact h6 | exact h7)
theorem isTys_kit {K : PySem.W.Frag} {d : D} : ∀ {ts : List Ty} {b : Bool}, isTys d ts = some b → PySem.W.kitAny K (.type (dN d)) (ts.map fun t => .type (tyN t)) = some b
  | [], b, h => h
  | t :: r, b, h => by
    unfold isTys at h
    rw [List.map_cons]
    unfold PySem.W.kitAny
    cases q : isTy d t with
    | none => rw [q] at h; cases h
    | some b' =>
      rw [q] at h
      rw [isTy_kit q]
      cases b' with
      | true => exact h
      | false => exact isTys_kit h
theorem ty_of (hK : X.K = g.K) {Hb H : Hp} {d : D} {x : V} (ex : Ex Hb H) (r : RR g Hb H d x) (hd : ∀ c fs, d ≠ .ins c fs) : TyX X.K H x (.type (dN d)) := by
  cases d with
  | non => cases r; exact .base .non
  | bl b => cases r; exact .base (.bl b)
  | int i => cases r; exact .base (.int i)
  | str l =>
    have r' : x = .str (sT _) ∧ _ := r
    rw [r'.1]; exact .base (.str _)
  | tup l =>
    obtain ⟨a, vs, rfl, h1, _⟩ := r
    rw [hK]
    rcases ex.sqt h1 with (h | ⟨o, h⟩) | ⟨o, its, n, h1, h2, _⟩
    · exact .base (.tup h)
    · exact .fTuple h
    · exact .kTuple h1 h2
  | lst l =>
    obtain ⟨a, vs, rfl, h1, _⟩ := r
    rw [hK]
    rcases h1 with (h | ⟨o, h⟩) | ⟨o, its, n, h1, h2, _⟩
    · exact .base (.lst h)
    · exact .base (.frz h)
    · exact .kList h1 h2
  | dct l => obtain ⟨a, vs, rfl, h1, _⟩ := r; exact .base (.dK h1)
  | ins c fs => exact absurd rfl (hd c fs)
theorem isTys_ins {d : D} {ts : List Ty} {b : Bool} (h : isTys d ts = some b) (hn : ts ≠ []) : ∀ c fs, d ≠ .ins c fs := by
  rintro c fs rfl
  cases ts with
  | nil => exact hn rfl
  | cons t r => unfold isTys at h; cases t <;> simp [isTy] at h
/-- isinstance(a, T) -/
theorem se_isi {a : Expr} {ta : T} {t : Ty} {x : Str} {p p2 pos : Pos} (G : Good g kk X W) (hg : Gl X "isinstance") (hm : X.mg "isinstance" = none) (hg2 : Gl X x) (hm2 : X.mg x = none) (hv2 : bootBuiltins x = some (.type (tyN t))) (hn2 : x ≠ "__name__")
    (hdb2 : (x == ("__debug__" : Str)) = false) (hs : noStar a = true) (ha : SE g X W a (ev ce ta)) : SE g X W (.Call (.Name "isinstance" p) [a, .Name x p2] [] pos) (ev ce (.isi ta [t])) := by
  intro e σ Hb H Q I h
  rw [ev] at h
  have h1 := star1 hs [.Name x p2] X.env
  refine tW_of (pe_callB (call_W X _) hg hm PyProof.Rows.boot_isinstance (pa_cons (pe_W X a) (pa_cons (pe_bltn hg2 hm2 hv2 (v := .ty (tyN t)) rfl hn2 hdb2) pa_nil rfl) h1) (by decide) (by decide) h1 (plain_es (es := [.Name x p2]) rfl)) ?_
  refine ha e σ Hb H _ I (CA.bind early_V h fun v1 e1 x1 Hb1 H1 p1 r1 k1 => ?_)
  obtain ⟨d, v, q1, q2, k⟩ := CA.op1' k1
  cases q3 : isTys d [t] with
  | none => rw [q3] at q2; cases q2
  | some b =>
    rw [q3] at q2
    cases q2
    have hty := ty_of G.hK p1.st.ex (r1.read p1.st q1) (isTys_ins q3 (by simp))
    have hk := isTys_kit (K := X.K) q3
    have hk' : PySem.W.kitOne X.K (.type (dN d)) (.type (tyN t)) = some b := by
      simp only [List.map, PySem.W.kitAny] at hk
      cases z : PySem.W.kitOne X.K (.type (dN d)) (.type (tyN t)) with
      | none => rw [z] at hk; cases hk
      | some b' => rw [z] at hk; cases b' <;> exact hk
    exact cW_of call_isi ⟨x1, .ty (tyN t), _, _, b, rfl, .ty _, hty, hk', k _ _ _ (.refl p1.st) (blV_rv b)⟩
def tyPs : List (Str × Pos) → List Expr := List.map fun y => .Name y.1 y.2
theorem pa_tys : ∀ {l : List (Str × Pos)} {ts : List Ty}, l.length = ts.length → (∀ (i : Nat) (y : Str × Pos) (t : Ty), l[i]? = some y → ts[i]? = some t → Gl X y.1 ∧ X.mg y.1 = none ∧ bootBuiltins y.1 = some (.type (tyN t)) ∧ y.1 ≠ "__name__" ∧ (y.1 == ("__debug__" : Str)) = false) →
    ∀ σ H Q, Q (ts.map fun t => V.ty (tyN t)) H → tWA X (tyPs l) σ H Q
  | [], [], _, _, σ, H, Q, q => tWA_of pa_nil q
  | y :: l, t :: ts, hl, h, σ, H, Q, q => by
    obtain ⟨h1, h2, h3, h4, h5⟩ := h 0 y t rfl rfl
    refine tWA_of (pa_cons (pe_bltn h1 h2 h3 (v := .ty (tyN t)) rfl h4 h5) (pa_W X (tyPs l)) (by rfl)) ?_
    exact pa_tys (by simpa using hl) (fun i y t a b => h (i + 1) y t (by simpa using a) (by simpa using b)) σ H _ q
  | [], _ :: _, hl, _, _, _, _, _ => by cases hl
  | _ :: _, [], hl, _, _, _, _, _ => by cases hl
/-- isinstance(a, (T, ..)) -/
theorem se_isis {a : Expr} {ta : T} {l : List (Str × Pos)} {ts : List Ty} {k : Nat} {p pos tpos : Pos} (G : Good g kk X W) (hg : Gl X "isinstance") (hm : X.mg "isinstance" = none) (hl : l.length = ts.length) (hz : ts ≠ []) (hlen : ts.length ≤ 100)
    (h : ∀ (i : Nat) (y : Str × Pos) (t : Ty), l[i]? = some y → ts[i]? = some t → Gl X y.1 ∧ X.mg y.1 = none ∧ bootBuiltins y.1 = some (.type (tyN t)) ∧ y.1 ≠ "__name__" ∧ (y.1 == ("__debug__" : Str)) = false)
    (hs : noStar a = true) (ha : SE g X W a (ev ce ta)) : SE g X W (.Call (.Name "isinstance" p) [a, .Tuple (tyPs l) k tpos] [] pos) (ev ce (.isi ta ts)) := by
  intro e σ Hb H Q I hh
  rw [ev] at hh
  have h1 := star1 hs [.Tuple (tyPs l) k tpos] X.env
  refine tW_of (pe_callB (call_W X _) hg hm PyProof.Rows.boot_isinstance (pa_cons (pe_W X a) (pa_cons (pe_tup (pa_W X (tyPs l))) pa_nil rfl) h1) (by decide) (by decide) h1 (plain_es (es := [.Tuple (tyPs l) k tpos]) rfl)) ?_
  refine ha e σ Hb H _ I (CA.bind early_V hh fun v1 e1 x1 Hb1 H1 p1 r1 k1 => ?_)
  obtain ⟨d, v, q1, q2, kx⟩ := CA.op1' k1
  cases q3 : isTys d ts with
  | none => rw [q3] at q2; cases q2
  | some b =>
    rw [q3] at q2
    cases q2
    refine pa_tys hl h σ H1 _ ⟨by rw [List.length_map, ← line_eq]; unfold line; omega, fun n hn => ?_⟩
    have pt : PK g σ Hb1 H1 e1 Hb1 (upd H1 n (.tup (ts.map fun t => V.ty (tyN t)))) e1 := .temp p1.st hn
    have hty := ty_of G.hK pt.st.ex ((r1.step pt).read pt.st q1) (isTys_ins q3 hz)
    refine cW_of call_isiT ⟨x1, n, ts.map fun t => V.ty (tyN t), _, ts.map fun t => .type (tyN t), b, rfl, upd_same, ?_, hty, isTys_kit q3, kx _ _ _ pt (blV_rv b)⟩
    clear h hl hz hlen q3 hty pt hn kx hh k1
    induction ts with
    | nil => exact .nil
    | cons t ts ih => exact .cons (.ty _) ih

/-! ### subscripts -/
def xW (X : Cx) : R2 := fun x y H Q => ∀ value slice pins s σ v u, Inv X pins σ H s → RelV x v → RelV y u → subscripted slice false v u = operate [v, u] (getItem v u) → wpAny (model X.prog X.w) X.A (subscriptTail value slice v u) (EP X pins σ Q) X.xe s
theorem ix_W (X : Cx) : IxR X (xW X) := fun value slice pins s σ H x y v u Q I rx ry h hs => h value slice pins s σ v u I rx ry hs
theorem xW_of {r : R2} (h : IxR X r) {x y : V} {H : Hp} {Q : VK} (q : r x y H Q) : xW X x y H Q := fun value slice pins s σ v u I rx ry hs => h value slice pins s σ H x y v u Q I rx ry q hs
theorem at_ixn {α : Type} {l : List α} {i : Int} {d : α} (h : ((ixn l.length i).bind fun j => l[j]?) = some d) : atI l i = some d := h
theorem at_rps {Hb : Hp} {l : List D} {vs : List V} {i : Int} {d : D} (r : Rps g Hb l vs) (h : ((ixn l.length i).bind fun j => l[j]?) = some d) : ∃ v, atI vs i = some v ∧ Rp g Hb d v := by
  cases q : ixn l.length i with
  | none => rw [q] at h; cases h
  | some j =>
    rw [q] at h
    obtain ⟨v, h1, h2⟩ := r.get h
    have q' : ixN vs.length i = some j := by rw [r.length]; exact q
    exact ⟨v, by unfold atI; rw [q']; exact h1, h2⟩
theorem ix_dict (hu : X.A.units + 1 < cLine) : IxR X (fun x y H Q => ∃ a kvs k v, x = .ref a ∧ H a = some (.dK kvs) ∧ y = kV k ∧ valV kvs k = some v ∧ Q v H) := by
  intro value slice pins s σ H x y v u Q I rx ry h hs
  obtain ⟨a, kvs, k, z, rfl, hh, rfl, hv, q⟩ := h
  obtain rfl : v = Value.ref a := rx
  have gt : DGet H a (kV k) (some z) := by rw [← hv]; exact .k hh
  have hT := dict_typeIs I gt
  unfold subscriptTail
  refine wpAny_bind ?_
  rw [getitemInPython_of_ne hT.not_modules]
  refine wpAny_bind (wpAny_specialOf hT PySem.F.slot_dict_getitem.lookup ?_)
  have fin : wpAny (model X.prog X.w) X.A (subscripted slice false (.ref a) u) (fun r s' => wpAny (model X.prog X.w) X.A (letTemporaryGo value (.ref a) r >>= fun _ => pure r) (EP X pins σ Q) X.xe s') X.xe s := by
    rw [hs]
    refine wpAny_operating (d_getItem hu I gt ry fun w' s3 I3 rw' => wpAny_bind (wpAny_letTemporaryGo (wpAny_pure ⟨z, H, I3, rw', q⟩)))
  first
    | exact wpAny_pure (wpAny_bind fin)
    | exact wpAny_bind (wpAny_pure (wpAny_bind fin))
    | exact wpAny_bind fin
theorem item_ok (hK : X.K = g.K) (hu : X.A.units + 64 < cLine) {a b d : D} (h : item a b = some d) {Hb H : Hp} {x y : V} {Q : VK} (ex : Ex Hb H) (ra : RR g Hb H a x) (rb : RR g Hb H b y) (q : ∀ z, Rp g Hb d z → Q z H) : xW X x y H Q := by
  unfold item at h
  split at h
  · obtain ⟨p, vs, rfl, h1, h2⟩ := ra
    cases rb
    obtain ⟨v, e1, e2⟩ := at_rps h2 h
    exact xW_of ix_list ⟨p, vs, _, v, rfl, rfl, by rw [hK]; exact h1, e1, q v e2⟩
  · obtain ⟨p, vs, rfl, h1, h2⟩ := ra
    cases rb
    obtain ⟨v, e1, e2⟩ := at_rps h2 h
    exact xW_of ix_tup ⟨p, vs, _, v, rfl, rfl, by rw [hK]; exact ex.sqt h1, e1, q v e2⟩
  · rename_i l i
    have ra' : x = .str (sT l) ∧ l.length ≤ sizeLine := ra
    obtain ⟨rfl, hz⟩ := ra'
    cases rb
    cases q1 : ixn l.length i with
    | none => rw [q1] at h; cases h
    | some j =>
      rw [q1] at h
      dsimp only [Option.bind] at h
      cases q2 : l[j]? with
      | none => rw [q2] at h; cases h
      | some c =>
        rw [q2] at h
        cases h
        refine xW_of ix_str ⟨sT l, i, c, rfl, rfl, by rw [len_sT]; exact hz, ?_, q _ ⟨rfl, by rw [← line_eq]; show 1 ≤ line; decide⟩⟩
        have e1 : (sT l).cps.toList = l := rfl
        rw [e1]
        exact at_ixn (by rw [q1]; exact q2)
  · rename_i l k _
    obtain ⟨p, kvs, rfl, h1, h2⟩ := ra
    cases q1 : keyOf b with
    | none => rw [q1] at h; cases h
    | some j =>
      rw [q1] at h
      obtain ⟨v, e1, e2⟩ := (rpk_look j h2).1 d h
      exact xW_of (ix_dict (by omega)) ⟨p, kvs, kT j, v, rfl, h1, key_V q1 (rb.rp ex), e1, q v e2⟩
  · cases h
def noSlice : Expr → Bool
  | .Slice _ _ _ _ => false
  | _ => true
theorem plainIx {b : Expr} (h : noSlice b = true) : PlainIx b := by
  cases b <;> first | (intro _ _; rfl) | (cases h; done)
theorem se_ix {a b : Expr} {ta tb : T} {pos : Pos} (G : Good g kk X W) (hs : noSlice b = true) (ha : SE g X W a (ev ce ta)) (hb : SE g X W b (ev ce tb)) : SE g X W (.Subscript a b pos) (ev ce (.ix ta tb)) := by
  intro e σ Hb H Q I h
  rw [ev] at h
  refine tW_of (pe_ix (ix_W X) (pe_W X a) (pe_W X b) (plainIx hs)) ?_
  refine ha e σ Hb H _ I (CA.bind early_V h fun v1 e1 x1 Hb1 H1 p1 r1 h1 => ?_)
  refine hb e1 σ Hb1 H1 _ p1.st (CA.bind early_V h1 fun v2 e2 x2 Hb2 H2 p2 r2 h2 => ?_)
  obtain ⟨d1, d2, d, q1, q2, q3, k⟩ := CA.op2 h2
  have r1' := r1.step p2
  exact item_ok G.hK G.hu q3 p2.st.ex (r1'.read p2.st q1) (r2.read p2.st q2) fun z rz => k z _ _ (.refl p2.st) rz

/-! ### slices -/
def lW (X : Cx) : V → Option Int → Option Int → Hp → VK → Prop := fun x lo hi H Q =>
  ∀ pins s σ v vl vu sl, Inv X pins σ H s → RelV x v → s.heap.IsSliceOf sl vl vu .none → IsPart vl lo → IsPart vu hi →
    ∃ T id, typeLookup (.type T) "__getitem__" = pure (some (.builtin id)) ∧ s.TypeIs v T ∧ wpAny (model X.prog X.w) X.A (getItem v (.ref sl)) (EP X pins σ Q) X.xe s
theorem sl_W (X : Cx) : SlR X (lW X) := fun pins s σ H x v vl vu lo hi sl Q I rx hs pl pu h => h pins s σ v vl vu sl I rx hs pl pu
theorem lW_of {r : V → Option Int → Option Int → Hp → VK → Prop} (h : SlR X r) {x : V} {lo hi : Option Int} {H : Hp} {Q : VK} (q : r x lo hi H Q) : lW X x lo hi H Q := fun pins s σ v vl vu sl I rx hs pl pu => h pins s σ H x v vl vu lo hi sl Q I rx hs pl pu q
def oW (X : Cx) (e : Option Expr) : TO := fun σ H Q => ∀ pins s, Inv X pins σ H s → wpAny (model X.prog X.w) X.A (evalPart e X.env) (fun u s' => ∃ o H', Inv X pins σ H' s' ∧ IsPart u o ∧ Q o H') X.xe s
theorem po_W (X : Cx) (e : Option Expr) : PO X e (oW X e) := ⟨fun pins s _ _ _ I h => h pins s I⟩
theorem oW_of {e : Option Expr} {t : TO} (h : PO X e t) {σ : L2.St} {H : Hp} {Q : Option Int → Hp → Prop} (q : t σ H Q) : oW X e σ H Q := fun pins s I => h.run pins s σ H Q I q
def SO (g : Gx) (X : Cx) (W : WX) (x : Option Expr) (m : VE → R (Option Int)) : Prop := ∀ e σ Hb H (Q : Option Int → Hp → Prop), VS g Hb e σ H → CA PQ g W σ Hb H e (m e) Q → oW X x σ H Q
theorem so_none : SO g X W none (evo ce none) := by
  intro e σ Hb H Q I h
  rw [evo] at h
  exact oW_of po_none (h _ _ _ (.refl I) rfl)
theorem so_some {a : Expr} {ta : T} (ha : SE g X W a (ev ce ta)) : SO g X W (some a) (evo ce (some ta)) := by
  intro e σ Hb H Q I h
  rw [evo] at h
  refine oW_of (po_some (pe_W X a)) ?_
  refine ha e σ Hb H _ I (CA.bind early_Q h fun v1 e1 x1 Hb1 H1 p1 r1 h1 => ?_)
  obtain ⟨d, i, q1, q2, k⟩ := CA.op1 h1
  have r := r1.read p1.st q1
  cases d <;> first | (cases q2; done) | skip
  cases q2
  exact ⟨_, r, k _ _ _ (.refl p1.st) rfl⟩
theorem clip_eq : clip = HT.sIx := by
  funext n d o
  cases o <;> rfl
theorem Rps.cut {Hb : Hp} {l : List D} {vs : List V} (h : Rps g Hb l vs) (lo hi : Option Int) : Rps g Hb (Vd.cut l lo hi) (cutV vs lo hi) := by
  unfold Vd.cut cutV
  rw [h.length, clip_eq]
  exact (h.drop _).take _
theorem slice_ok (hK : X.K = g.K) {a : D} {lo hi : Option Int} {v : Val} (h : slice a lo hi = some v) {e : VE} {σ : L2.St} {Hb H : Hp} {x : V} {Q : VK} (I : VS g Hb e σ H) (ra : RR g Hb H a x)
    (q : ∀ z Hb' H', PK g σ Hb H e Hb' H' e → RV g H Hb' H' e σ v z → Q z H') : lW X x lo hi H Q := by
  unfold slice at h
  split at h
  · cases h
    obtain ⟨p, vs, rfl, h1, h2⟩ := ra
    exact lW_of sl_list ⟨p, vs, rfl, by rw [hK]; exact h1, fun n hn => q _ _ _ (.temp I hn) (RV.temp I hn ⟨_, upd_same, h2.cut lo hi⟩)⟩
  · rename_i l
    cases h
    obtain ⟨p, vs, rfl, h1, h2⟩ := ra
    refine lW_of sl_tupA ⟨p, vs, rfl, by rw [hK]; exact I.ex.sqt h1, fun w => ?_, fun _ n hn => ?_⟩
    · refine q _ _ _ (.refl I) ⟨p, vs, rfl, h1, ?_⟩
      have e1 : Vd.cut l lo hi = l := by
        unfold Vd.cut
        rw [clip_eq, ← h2.length, w.1, w.2, List.drop_zero, Nat.sub_zero, h2.length, List.take_length]
      rw [e1]; exact h2
    · have hb := I.ex.back hn
      exact q _ _ _ (.new I hn) ⟨n, _, rfl, .of upd_same, Rps.mono (.new hb) _ _ (h2.cut lo hi)⟩
  · rename_i l
    cases h
    have ra' : x = .str (sT l) ∧ l.length ≤ sizeLine := ra
    obtain ⟨rfl, hz⟩ := ra'
    refine lW_of sl_str ⟨sT l, rfl, by rw [len_sT]; exact hz, q _ _ _ (.refl I) ⟨?_, ?_⟩⟩
    · unfold cutS Vd.cut
      rw [len_sT, clip_eq]
      rfl
    · unfold Vd.cut
      rw [List.length_take, List.length_drop]
      omega
  · cases h
theorem se_sl {a : Expr} {lo hi : Option Expr} {ta : T} {tl th : Option T} {p2 pos : Pos} (G : Good g kk X W) (ha : SE g X W a (ev ce ta)) (hl : SO g X W lo (evo ce tl)) (hh : SO g X W hi (evo ce th)) :
    SE g X W (.Subscript a (.Slice lo hi none p2) pos) (ev ce (.sl ta tl th)) := by
  intro e σ Hb H Q I h
  rw [ev] at h
  refine tW_of (pe_slice (sl_W X) (pe_W X a) (po_W X lo) (po_W X hi)) ?_
  refine ha e σ Hb H _ I (CA.bind early_V h fun v1 e1 x1 Hb1 H1 p1 r1 h1 => ?_)
  refine hl e1 σ Hb1 H1 _ p1.st (CA.bind early_V h1 fun l e2 x2 Hb2 H2 p2 r2 h2 => ?_)
  refine hh e2 σ Hb2 H2 _ p2.st (CA.bind early_V h2 fun u e3 x3 Hb3 H3 p3 r3 h3 => ?_)
  subst r2 r3
  obtain ⟨d, v, q1, q2, k⟩ := CA.op1' h3
  exact slice_ok G.hK q2 p3.st (((r1.step p2).step p3).read p3.st q1) k
end
end Vd
/-! Vd9: an own object is written; methods of lists; displays of dicts. -/
namespace Vd
open PySem PySem.Spec PyProof.Rows L2

section
variable {g : Gx} {kk : Nat} {X : Cx} {W : WX} {ce : CE} {σ : L2.St} {H0 Hb0 Hb H : Hp} {e0 e : VE}
theorem VS.write (I : VS g Hb e σ H) {i : Nat} {b k : Bool} {c c' : OC} {a : Addr} {o : HO} (h : e[i]? = some (.own b k c)) (hs : σ[i]? = some (some (.ref a))) (ro : RO g Hb (upd H a o) c' a) : VS g Hb (e.set i (.own b k c')) σ (upd H a o) := by
  obtain ⟨a0, z, hb, ro0⟩ := I.own i b k c h
  rw [hs] at z; cases z
  obtain ⟨u, hu, n1, n2⟩ := ro0.there
  have hi : i < e.length := (List.getElem?_eq_some_iff.mp h).1
  have tn : ¬ g.tb a := I.tb_ne fun ps q => by rw [hu] at q; cases q; exact n1 ps rfl
  have oth : ∀ (j : Nat) b' k' d, (e.set i (.own b k c'))[j]? = some (SS.own b' k' d) → (i = j ∧ d = c' ∧ b' = b ∧ k' = k) ∨ (i ≠ j ∧ e[j]? = some (SS.own b' k' d)) := fun j b' k' d q => by
    by_cases z : i = j
    · subst z
      rw [List.getElem?_set_self hi] at q
      cases q
      exact .inl ⟨rfl, rfl, rfl, rfl⟩
    · rw [List.getElem?_set_ne z] at q
      exact .inr ⟨z, q⟩
  have own0 : ∀ (j : Nat) b' k' d, (e.set i (.own b k c'))[j]? = some (SS.own b' k' d) → ∃ d0, e[j]? = some (SS.own b' k' d0) := fun j b' k' d q => by
    rcases oth j b' k' d q with ⟨rfl, _, rfl, rfl⟩ | ⟨_, q⟩
    · exact ⟨c, h⟩
    · exact ⟨d, q⟩
  refine ⟨by rw [List.length_set]; exact I.len, fun x v q => ?_, fun j d q => ?_, fun j b' k' d q => ?_, fun j l b1 k1 c1 b2 k2 c2 a' q1 q2 => ?_, ?_, fun x q => ?_⟩
  · have ne : x ≠ a := fun z => by rw [z, hb] at q; cases q
    rw [upd_ne ne]; exact I.ex x v q
  · by_cases z : i = j
    · subst z
      rw [List.getElem?_set_self hi] at q
      cases q
    · rw [List.getElem?_set_ne z] at q
      exact I.dat j d q
  · rcases oth j b' k' d q with ⟨rfl, rfl, rfl, rfl⟩ | ⟨nz, q⟩
    · exact ⟨a, hs, hb, ro⟩
    · obtain ⟨a', e1, e2, e3⟩ := I.own j b' k' d q
      have ne : a' ≠ a := fun z => nz (I.inj i j b k c b' k' d a h q hs (by rw [e1, z]))
      exact ⟨a', e1, e2, e3.mono (.refl _) fun o h => by rw [upd_ne ne]; exact h⟩
  · obtain ⟨d1, z1⟩ := own0 j b1 k1 c1 q1
    obtain ⟨d2, z2⟩ := own0 l b2 k2 c2 q2
    exact I.inj j l b1 k1 d1 b2 k2 d2 a' z1 z2
  · exact g.tokU _ _ _ I.tok (fun ps z => by rw [hu] at z; cases z; exact n1 ps rfl) (fun ps z => by rw [hu] at z; cases z; exact n2 ps rfl)
  · have ne : x ≠ a := fun z => tn (z ▸ q)
    exact ⟨(I.tbn x q).1, by rw [upd_ne ne]; exact (I.tbn x q).2⟩
theorem PK.write (I : VS g Hb e σ H) {i : Nat} {b : Bool} {c c' : OC} {a : Addr} {o : HO} (h : e[i]? = some (.own b false c)) (hs : σ[i]? = some (some (.ref a))) (ro : RO g Hb (upd H a o) c' a) : PK g σ Hb H e Hb (upd H a o) (e.set i (.own b false c')) := by
  have ek : EK e (e.set i (.own b false c')) := .set h (.turn b c c')
  obtain ⟨a0, z, hb, ro0⟩ := I.own i b false c h
  rw [hs] at z; cases z
  refine ⟨⟨.refl _, fun x u q n => ?_, fun _ _ q => .inl q, fun x q => .inl (ek.ow q), fun x q => ?_⟩, I.write h hs ro, ek⟩
  · have ne : x ≠ a := fun z => n (z ▸ .inr ⟨i, b, false, c, h, hs⟩)
    rw [upd_ne ne]; exact q
  · by_cases ne : x = a
    · subst ne; rw [upd_same] at q; cases q
    · rw [upd_ne ne] at q; exact q

/-! ### methods of lists -/
def mW (X : Cx) (id : String) : V → List V → Hp → VK → Prop := fun x xs H Q => ∀ pins s σ v us, Inv X pins σ H s → RelV x v → Vals xs us → wpAny (model X.prog X.w) X.A (call (.builtin id) (v :: us)) (EP X pins σ Q) X.xe s
theorem mt_W (X : Cx) (id : String) : MtR X id (mW X id) := fun pins s σ H x xs v us Q I rx rs h => h pins s σ v us I rx rs
theorem mW_of {id : String} {r : V → List V → Hp → VK → Prop} (h : MtR X id r) {x : V} {xs : List V} {H : Hp} {Q : VK} (q : r x xs H Q) : mW X id x xs H Q := fun pins s σ v us I rx rs => h pins s σ H x xs v us Q I rx rs q
def mNm : M1 → Str
  | .append => "append"
  | .extend => "extend"
  | .pop => "pop"
  | .insert => "insert"
  | .index => "index"
  | .count => "count"
  | .join => "join"
  | .split => "split"
  | .startswith => "startswith"
  | .partition => "partition"
  | .find => "find"
  | .get => "get"
  | .setdefault => "setdefault"
def noCall : Expr → Bool
  | .Call _ [] _ _ => false
  | _ => true
theorem base_of {o : Expr} (h : noCall o = true) (n : Str) (env : Env) (whole : Sem Value) : attributeBase o n env whole = whole := by
  cases o with
  | Call f as ks p =>
    cases as with
    | nil => cases h
    | cons a l => unfold attributeBase; first | rfl | (cases f <;> rfl)
  | _ => unfold attributeBase; rfl
theorem few_es {env : Env} {pos : Pos} : ∀ {es : List Expr}, es.all noStar = true → (backTo pos (starEach es env)).all (fun x => !x.1) = true
  | [], _ => rfl
  | a :: l, h => by
    rw [List.all_cons, Bool.and_eq_true] at h
    rw [star1 h.1]
    have ih := few_es (env := env) (pos := pos) h.2
    unfold backTo at ih ⊢
    rw [List.map_cons, List.all_cons, ih]
    rfl
theorem tyV_lst {Hb H : Hp} (hK : X.K = g.K) {d : D} {x : V} {m : M1} (hm : m = .append ∨ m = .extend ∨ m = .pop) (h : mOk m d = some ()) (r : RR g Hb H d x) : tyV X.K "list" x H := by
  rcases hm with rfl | rfl | rfl <;> (cases d <;> first | (cases h; done) | (obtain ⟨a, vs, rfl, h1, _⟩ := r; exact .inl ⟨rfl, vs, by rw [hK]; exact h1⟩))
/-- the slot of a view that is written: its address -/
theorem view_at (I : VS g Hb e σ H) {i : Nat} {x : V} {b k : Bool} {c : OC} (r : RV g H0 Hb H e σ (.vw i) x) (h : e[i]? = some (.own b k c)) : ∃ a, x = .ref a ∧ σ[i]? = some (some (.ref a)) ∧ RO g Hb H c a := by
  obtain ⟨a, z, _, ro⟩ := I.own i b k c h
  rw [r.1] at z; cases z
  exact ⟨a, rfl, r.1, ro⟩
theorem few_ok {env : Env} {pos : Pos} {a : Expr} {es : List Expr} (h : (a :: es).all noStar = true) (hl : (a :: es).length < 30) :
    ((backTo pos (starEach (a :: es) env)).all (fun x => !x.1) && (backToKw pos (keywordEach [] env)).all (fun x => x.1.isSome)
      && decide ((a :: es).length + ([] : List Keyword).length + (if ([] : List Keyword).isEmpty then 0 else 1) < 30)) = true := by
  rw [few_es h]
  simp only [Bool.and_eq_true, decide_eq_true_eq]
  refine ⟨⟨trivial, rfl⟩, ?_⟩
  simpa using hl
theorem se_append {a v : Expr} {ta tv : T} {apos cpos : Pos} (hK : X.K = g.K) (hc : noCall a = true) (hl : (apos.endLine == cpos.line) = true) (hs : noStar v = true) (ha : SE g X W a (ev ce ta)) (hv : SE g X W v (ev ce tv)) :
    SE g X W (.Call (.Attribute a "append" apos) [v] [] cpos) (ev ce (.mt .append ta [tv])) := by
  intro e σ Hb H Q I h
  rw [ev] at h
  simp only [evs] at h
  have hs' : [v].all noStar = true := by simpa using hs
  refine tW_of (pe_bm F.plainAttrs_list F.slot_list_append F.type_list_append mt_append (pe_W X a) (pa_cons (pe_W X v) pa_nil (star1 hs _ _)) (base_of hc _ _ _) (few_ok hs' (by simp)) hl (star1 hs _ _) rfl) ?_
  refine ha e σ Hb H _ I (CA.bind early_V h fun v1 e1 x1 Hb1 H1 p1 r1 h1 => ?_)
  obtain ⟨d, u, q1, q2, h2⟩ := CA.op1 h1
  refine ⟨tyV_lst hK (.inl rfl) (by cases u; exact q2) (r1.read p1.st q1), ?_⟩
  refine hv e1 σ Hb1 H1 _ p1.st ?_
  cases q3 : ev ce tv e1 with
  | rz x e' => rw [q3] at h2; exact h2
  | no => rw [q3] at h2; exact h2
  | ok v2 e2 =>
    rw [q3] at h2
    intro x2 Hb2 H2 p2 r2
    have h3 : CA (PV g σ) g W σ Hb1 H1 e1 (mfn .append v1 [v2] e2) Q := h2
    cases v1 with
    | p d => exact h3.elim
    | fr c => exact h3.elim
    | vw i =>
      obtain ⟨Hb3, p3, b3, k3⟩ := RVs.keep (vs := [v2]) (xs := [x2]) p2 ⟨x2, [], rfl, r2, rfl, fun _ _ j c' z => by simp at z⟩
      obtain ⟨y, r, ey, k3, er⟩ := k3
      cases er
      cases ey
      unfold mfn at h3
      dsimp only at h3
      cases q4 : fz e2 v2 with
      | none => rw [q4] at h3; exact h3.elim
      | some pr =>
        obtain ⟨d2, e3⟩ := pr
        rw [q4] at h3
        simp only [ofP_some, R.bind_ok] at h3
        obtain ⟨Hb4, p4, b4, ek4, s4⟩ := fz_ok p3 k3 q4
        split at h3
        · rename_i b l q5
          split at h3
          · rename_i hlen
            have r1' := r1.step p4
            obtain ⟨ad, rfl, hσ, ro⟩ := view_at p4.st r1' q5
            obtain ⟨vs, hh, rp⟩ := ro
            refine ⟨ad, vs, x2, rfl, rfl, hh, by rw [rp.length, ← line_eq]; exact hlen, ?_⟩
            exact h3 _ _ _ (p4.trans (.write p4.st q5 hσ ⟨_, upd_same, rp.app (.one s4)⟩)) rfl
          · exact h3.elim
        · exact h3.elim
theorem se_extend {a v : Expr} {ta tv : T} {apos cpos : Pos} (hK : X.K = g.K) (hc : noCall a = true) (hl : (apos.endLine == cpos.line) = true) (hs : noStar v = true) (ha : SE g X W a (ev ce ta)) (hv : SE g X W v (ev ce tv)) :
    SE g X W (.Call (.Attribute a "extend" apos) [v] [] cpos) (ev ce (.mt .extend ta [tv])) := by
  intro e σ Hb H Q I h
  rw [ev] at h
  simp only [evs] at h
  have hs' : [v].all noStar = true := by simpa using hs
  refine tW_of (pe_bm F.plainAttrs_list F.slot_list_extend F.type_list_extend mt_extL (pe_W X a) (pa_cons (pe_W X v) pa_nil (star1 hs _ _)) (base_of hc _ _ _) (few_ok hs' (by simp)) hl (star1 hs _ _) rfl) ?_
  refine ha e σ Hb H _ I (CA.bind early_V h fun v1 e1 x1 Hb1 H1 p1 r1 h1 => ?_)
  obtain ⟨d, u, q1, q2, h2⟩ := CA.op1 h1
  refine ⟨tyV_lst hK (.inr (.inl rfl)) (by cases u; exact q2) (r1.read p1.st q1), ?_⟩
  refine hv e1 σ Hb1 H1 _ p1.st ?_
  cases q3 : ev ce tv e1 with
  | rz x e' => rw [q3] at h2; exact h2
  | no => rw [q3] at h2; exact h2
  | ok v2 e2 =>
    rw [q3] at h2
    intro x2 Hb2 H2 p2 r2
    have h3 : CA (PV g σ) g W σ Hb1 H1 e1 (mfn .extend v1 [v2] e2) Q := h2
    cases v1 with
    | p d => exact h3.elim
    | fr c => exact h3.elim
    | vw i =>
      unfold mfn at h3
      dsimp only at h3
      split at h3
      · rename_i b l m q5 q6
        split at h3
        · rename_i hlen
          have r1' := r1.step p2
          obtain ⟨ad, rfl, hσ, ro⟩ := view_at p2.st r1' q5
          obtain ⟨vs, hh, rp⟩ := ro
          obtain ⟨ad2, ws, rfl, hh2, rp2⟩ := r2.read p2.st q6
          refine ⟨ad, ad2, vs, ws, rfl, rfl, hh, by rw [hK]; exact hh2, by rw [rp.length, rp2.length, ← line_eq]; exact hlen, ?_⟩
          exact h3 _ _ _ (p2.trans (.write p2.st q5 hσ ⟨_, upd_same, rp.app rp2⟩)) rfl
        · exact h3.elim
      · exact h3.elim
theorem se_pop {a : Expr} {ta : T} {apos cpos : Pos} (hK : X.K = g.K) (hc : noCall a = true) (hl : (apos.endLine == cpos.line) = true) (ha : SE g X W a (ev ce ta)) :
    SE g X W (.Call (.Attribute a "pop" apos) [] [] cpos) (ev ce (.mt .pop ta [])) := by
  intro e σ Hb H Q I h
  rw [ev] at h
  simp only [evs] at h
  refine tW_of (pe_bm0 F.plainAttrs_list F.slot_list_pop F.type_list_pop mt_pop (pe_W X a) (base_of hc _ _ _) hl) ?_
  refine ha e σ Hb H _ I (CA.bind early_V h fun v1 e1 x1 Hb1 H1 p1 r1 h1 => ?_)
  obtain ⟨d, u, q1, q2, h2⟩ := CA.op1 h1
  refine ⟨tyV_lst hK (.inr (.inr rfl)) (by cases u; exact q2) (r1.read p1.st q1), ?_⟩
  have h3 : CA (PV g σ) g W σ Hb1 H1 e1 (mfn .pop v1 [] e1) Q := h2
  cases v1 with
  | p d => exact h3.elim
  | fr c => exact h3.elim
  | vw i =>
    unfold mfn at h3
    dsimp only at h3
    split at h3
    · rename_i b l q5
      split at h3
      · rename_i d2 q6
        obtain ⟨ad, rfl, hσ, ro⟩ := view_at p1.st r1 q5
        obtain ⟨vs, hh, rp⟩ := ro
        rw [List.getLast?_eq_getElem?] at q6
        obtain ⟨y, e1', e2'⟩ := rp.get q6
        refine ⟨ad, vs, y, rfl, rfl, hh, by rw [rp.length]; exact e1', ?_⟩
        exact h3 _ _ _ (.write p1.st q5 hσ ⟨_, upd_same, rp.dropLast⟩) e2'
      · exact h3.elim
    · exact h3.elim
end
end Vd
/-! Vd10: displays of dicts; calls of defs. -/
namespace Vd
open PySem PySem.Spec PyProof.Rows L2

section
variable {g : Gx} {kk : Nat} {X : Cx} {W : WX} {ce : CE} {σ : L2.St} {H0 Hb0 Hb H : Hp} {e0 e : VE}
theorem PK.retemp {Hb1 H1 : Hp} {e1 : VE} (q : PK g σ Hb H e Hb1 H1 e1) {p : Addr} {o o0 : HO} (hp : H p = none) (ho : H1 p = some o0) (n1 : ∀ ps, o0 ≠ .tbl ps) (n2 : ∀ ps, o0 ≠ .ext ps) (no : ¬ Ow g e1 σ p) (hb : Hb1 p = none) : PK g σ Hb H e Hb1 (upd H1 p o) e1 := by
  have I := q.st
  refine ⟨⟨q.vp.b, fun a u z n => ?_, q.vp.n, q.vp.s, fun a z => ?_⟩, ⟨I.len, fun a u z => ?_, I.dat, fun i b k c z => ?_, I.inj, ?_, fun a z => ?_⟩, q.ek⟩
  · have ne : a ≠ p := fun w => by rw [w, hp] at z; cases z
    rw [upd_ne ne]; exact q.vp.k a u z n
  · by_cases ne : a = p
    · subst ne; exact hp
    · rw [upd_ne ne] at z; exact q.vp.t a z
  · have ne : a ≠ p := fun w => by rw [w, hb] at z; cases z
    rw [upd_ne ne]; exact I.ex a u z
  · obtain ⟨a, h1, h2, h3⟩ := I.own i b k c z
    have ne : a ≠ p := fun w => no (.inr ⟨i, b, k, c, z, by rw [h1, w]⟩)
    exact ⟨a, h1, h2, h3.mono (.refl _) fun u w => by rw [upd_ne ne]; exact w⟩
  · exact g.tokU _ _ _ I.tok (fun ps z => by rw [ho] at z; cases z; exact n1 ps rfl) (fun ps z => by rw [ho] at z; cases z; exact n2 ps rfl)
  · have ne : a ≠ p := fun w => no (.inl (w ▸ z))
    exact ⟨(I.tbn a z).1, by rw [upd_ne ne]; exact (I.tbn a z).2⟩
/-- rows of pairs: constant keys -/
def prs (X : Cx) (l : List (DK × Expr)) : List (TE × TE) := l.map fun p => (tC (kV (kT p.1)), tW X p.2)
def SD (g : Gx) (X : Cx) (W : WX) (l : List (DK × Expr)) (m : VE → R (List Val)) : Prop :=
  ∀ e σ Hb H (Q : List V → Hp → Prop), VS g Hb e σ H → CA (PL g σ) g W σ Hb H e (m e) Q → tPairs (prs X l) σ H fun ps H' => ∃ xs, xs.length = l.length ∧ ps = (((l.map fun p => kT p.1).zip xs).map fun kv => (kV kv.1, kv.2)) ∧ Q xs H'
theorem sd_nil : SD g X W [] (evs ce []) := by
  intro e σ Hb H Q I h
  rw [evs] at h
  exact ⟨[], rfl, rfl, h [] Hb H (.refl I) rfl⟩
theorem sd_cons {k : DK} {a : Expr} {l : List (DK × Expr)} {ta : T} {ts : List T} (ha : SE g X W a (ev ce ta)) (hr : SD g X W l (evs ce ts)) : SD g X W ((k, a) :: l) (evs ce (ta :: ts)) := by
  intro e σ Hb H Q I h
  rw [evs] at h
  show tW X a σ H _
  refine ha e σ Hb H _ I ?_
  cases q1 : ev ce ta e with
  | ok v1 e1 =>
    rw [q1] at h
    intro x1 Hb1 H1 p1 r1
    dsimp only [R.bind] at h
    have key := hr e1 σ Hb1 H1 (fun xs H' => Q (x1 :: xs) H') p1.st (by
      cases q2 : evs ce ts e1 with
      | ok v2 e2 =>
        rw [q2] at h
        intro x2 Hb2 H2 p2 r2
        exact h (x1 :: x2) Hb2 H2 (p1.trans p2) (RVs.cons r1 p2 p1.vp.t r2)
      | rz xd e2 =>
        rw [q2] at h
        exact fun cls d Hb' H' p2 rx => h cls d Hb' H' (p1.trans p2) rx
      | no => rw [q2] at h; exact h)
    have mono : ∀ (trs : List (TE × TE)), (∀ p ∈ trs, ∀ σ H (Q Q' : VK), (∀ v H, Q v H → Q' v H) → (p.1 σ H Q → p.1 σ H Q') ∧ (p.2 σ H Q → p.2 σ H Q')) → ∀ σ H (Q Q' : List (V × V) → Hp → Prop), (∀ v H, Q v H → Q' v H) → tPairs trs σ H Q → tPairs trs σ H Q' := by
      intro trs
      induction trs with
      | nil => intro _ σ H Q Q' hq h; exact hq _ _ h
      | cons p r ih =>
        intro hp σ H Q Q' hq h
        have hh := hp p (by simp)
        exact (hh σ H _ _ fun v H h => (hh σ H _ _ fun v H h => ih (fun p m => hp p (by simp [m])) σ H _ _ (fun v H h => hq _ _ h) h).2 h).1 h
    refine mono (prs X l) (fun p m => ?_) σ H1 _ _ (fun ps H' ⟨xs, hl, e1, q⟩ => ⟨x1 :: xs, by simp [hl], by rw [e1]; rfl, q⟩) key
    obtain ⟨y, _, rfl⟩ := List.mem_map.mp m
    intro σ H Q Q' hq
    exact ⟨fun h => hq _ _ h, fun h pins s J => thn (h pins s J) fun u s' ⟨v, H', J', r, q⟩ => ⟨v, H', J', r, hq _ _ q⟩⟩
  | rz xd e1 => rw [q1] at h; exact h
  | no => rw [q1] at h; exact h
theorem rpk_fold : ∀ (ks : List DK) (ds : List D) (xs : List V) (acc : List (DK × D)) (accv : List (Key × V)), Rps g Hb ds xs → Rpk g Hb acc accv →
    Rpk g Hb ((ks.zip ds).foldl (fun acc kv => putD acc kv.1 kv.2) acc) (((ks.map kT).zip xs).foldl (fun acc kv => putK acc kv.1 kv.2) accv)
  | [], _, _, _, _, _, h => h
  | k :: ks, [], _, _, _, r, h => by cases r; exact h
  | k :: ks, d :: ds, _, acc, accv, r, h => by
    obtain ⟨x, xs, rfl, h1, h2⟩ := r
    exact rpk_fold ks ds xs _ _ h2 (rpk_put h1 h)
theorem se_dct {keys : List (Option Expr)} {l : List (DK × Expr)} {ts : List T} {pos : Pos} (hp : PPs X pos keys (l.map (·.2)) (prs X l)) (hall : keys.all (·.isSome) = true) (hl : keys.length = l.length) (h0 : l ≠ []) (h15 : l.length ≤ 15) (hs : SD g X W l (evs ce ts)) :
    SE g X W (.Dict keys (l.map (·.2)) pos) (ev ce (.dct (l.map (·.1)) ts)) := by
  intro e σ Hb H Q I h
  rw [ev] at h
  refine tW_of (pe_disp hp hall (by rw [hl]; simp) (fun z => h0 (by rw [z] at hl; exact List.length_eq_zero_iff.mp hl.symm)) (by omega)) ?_
  intro p hn
  have pt := PK.temp (o := .dK []) I hn
  have no := not_ow I hn
  have key := hs e σ Hb _ (fun xs H2 => xs.length = l.length → H2 p = some (.dK []) ∧ Q (.ref p) (upd H2 p (.dK (mergeK [] ((l.map fun p => kT p.1).zip xs))))) pt.st (by
    cases q1 : evs ce ts e with
    | no => rw [q1] at h; exact h
    | rz xd e1 => rw [q1] at h; exact fun cls d Hb' H' pk rx => h cls d Hb' H' (pt.trans pk) rx
    | ok vs e1 =>
      rw [q1] at h
      intro xs Hb1 H1 p1 r1 hlen
      dsimp only [R.bind] at h
      have e1p : H1 p = some (.dK []) := p1.vp.k p _ upd_same no
      refine ⟨e1p, ?_⟩
      cases q2 : fzs vs e1 with
      | none => rw [q2] at h; exact h.elim
      | some y =>
        obtain ⟨ds, e2⟩ := y
        rw [q2] at h
        simp only [ofP_some] at h
        obtain ⟨Hb2, p2, b2, k2⟩ := RVs.keep p1 r1
        obtain ⟨Hb3, p3, b3, s3⟩ := fzs_ok p2 k2 q2
        by_cases hz : ds.length ≤ 15
        · rw [if_pos hz] at h
          have no2 : ¬ Ow g e2 σ p := fun z => no (p3.ek.ow z)
          have hb3 : Hb3 p = none := by
            cases q : Hb3 p with
            | none => rfl
            | some u =>
              rcases p3.vp.n p u q with z | z | z
              · rw [I.ex.back hn] at z; cases z
              · rw [upd_same] at z; cases z
              · exact absurd z no
          have pf := (pt.trans p3).retemp (o := .dK (mergeK [] ((l.map fun p => kT p.1).zip xs))) hn e1p (fun _ z => by cases z) (fun _ z => by cases z) no2 hb3
          refine h _ _ _ pf ⟨p, rfl, hn, hb3, ⟨_, upd_same, ?_⟩, no2⟩
          have := rpk_fold (g := g) (Hb := Hb3) (l.map (·.1)) ds xs [] [] s3 rfl
          rw [List.map_map] at this
          exact this
        · rw [if_neg hz] at h; exact h.elim)
  have mono : ∀ (trs : List (TE × TE)), (∀ p ∈ trs, ∀ σ H (Q Q' : VK), (∀ v H, Q v H → Q' v H) → (p.1 σ H Q → p.1 σ H Q') ∧ (p.2 σ H Q → p.2 σ H Q')) → ∀ σ H (Q Q' : List (V × V) → Hp → Prop), (∀ v H, Q v H → Q' v H) → tPairs trs σ H Q → tPairs trs σ H Q' := by
    intro trs
    induction trs with
    | nil => intro _ σ H Q Q' hq h; exact hq _ _ h
    | cons p r ih =>
      intro hp σ H Q Q' hq h
      have hh := hp p (by simp)
      exact (hh σ H _ _ fun v H h => (hh σ H _ _ fun v H h => ih (fun p m => hp p (by simp [m])) σ H _ _ (fun v H h => hq _ _ h) h).2 h).1 h
  refine mono (prs X l) (fun p m => ?_) σ _ _ _ (fun ps H' ⟨xs, hlen, e1, q⟩ => ?_) key
  · obtain ⟨y, _, rfl⟩ := List.mem_map.mp m
    intro σ H Q Q' hq
    exact ⟨fun h => hq _ _ h, fun h pins s J => thn (h pins s J) fun u s' ⟨v, H', J', r, q⟩ => ⟨v, H', J', r, hq _ _ q⟩⟩
  · obtain ⟨q1, q2⟩ := q hlen
    exact ⟨q1, _, e1, by simp [hlen]; omega, q2⟩
theorem se_dct0 {pos : Pos} : SE g X W (.Dict [] [] pos) (ev ce (.dct [] [])) := by
  intro e σ Hb H Q I h
  rw [ev] at h
  simp only [evs, R.bind_ok, fzs, ofP_some] at h
  refine tW_of pe_dnewK fun p hp => ?_
  rw [if_pos (by decide)] at h
  exact h _ _ _ (.temp I hp) (RV.temp I hp ⟨_, upd_same, rfl⟩)
end
end Vd
/-! Vd11: calls of defs. -/
namespace Vd
open PySem PySem.Spec PyProof.Rows L2

/-- what a call may turn of an argument -/
inductive AR : Arg → Arg → Prop where
  | same (a : Arg) : AR a a
  | turn (c c' : OC) : AR (.o false c) (.o false c')
structure AK (l l' : List Arg) : Prop where
  len : l'.length = l.length
  at' : ∀ (i : Nat) (a : Arg), l[i]? = some a → ∃ a', l'[i]? = some a' ∧ AR a a'
abbrev aE (l : List Arg) : VE := l.map Arg.ss
abbrev aS (vs : List V) : L2.St := vs.map some
/-- the promise of a def that computes F -/
def spD (g : Gx) (n : Nat) (F : List Arg → RF) : Sp := fun vs H Q E => vs.length = n ∧ ∃ (as : List Arg) (Hb : Hp), VS g Hb (aE as) (aS vs) H ∧
  match F as with
  | .ok r as' => ∀ x Hb' H', VP (Ow g (aE as) (aS vs)) Hb H (Ow g (aE as') (aS vs)) Hb' H' → VS g Hb' (aE as') (aS vs) H' → AK as as' → RV g H Hb' H' (aE as') (aS vs) r.val x → Q x H'
  | .rz xd as' => ∀ cls d Hb' H', VP (Ow g (aE as) (aS vs)) Hb H (Ow g (aE as') (aS vs)) Hb' H' → VS g Hb' (aE as') (aS vs) H' → AK as as' → RX g Hb' H' xd cls d → E cls d H'
  | .no => False
section
variable {g : Gx} {kk : Nat} {X : Cx} {W : WX} {ce : CE} {σ : L2.St} {H0 Hb H : Hp} {e : VE}
/-- an argument stands for a value at hand -/
def Hands (g : Gx) (Hb : Hp) (e : VE) (σ : L2.St) : Val → Arg → V → Prop := fun v a x =>
  (∃ d, a = .p d ∧ Rp g Hb d x) ∨ ∃ i b k c, v = .vw i ∧ a = .o k c ∧ e[i]? = some (.own b k c) ∧ σ[i]? = some (some x)
theorem hands_of (I : VS g Hb e σ H) {v : Val} {a : Arg} {x : V} (r : RK g Hb e σ v x) (h : argOf e v = some a) : Hands g Hb e σ v a x := by
  cases v with
  | p d => cases h; exact .inl ⟨d, rfl, r⟩
  | fr c => cases h; exact .inl ⟨_, rfl, r⟩
  | vw i =>
    obtain ⟨h1, s, h2, n⟩ := r
    dsimp only [argOf] at h
    rw [h2] at h
    split at h
    · rename_i d hd
      cases hd
      cases h
      obtain ⟨y, e1, e2⟩ := I.dat i _ h2
      rw [h1] at e1; cases e1
      exact .inl ⟨d, rfl, e2⟩
    · rename_i b k c hd
      cases hd
      cases h
      exact .inr ⟨i, b, k, c, rfl, rfl, h2, h1⟩
    · cases h
theorem hands_all (I : VS g Hb e σ H) : ∀ {vs : List Val} {as : List Arg} {xs : List V}, RKs g Hb e σ vs xs → argsOf e vs = some as → as.length = vs.length ∧ xs.length = vs.length ∧ ∀ (j : Nat) v, vs[j]? = some v → ∃ a x, as[j]? = some a ∧ xs[j]? = some x ∧ Hands g Hb e σ v a x
  | [], _, _, h, k => by cases k; cases h; exact ⟨rfl, rfl, fun j v z => by simp at z⟩
  | w :: l, as, _, h, k => by
    obtain ⟨x, r, rfl, h1, h2⟩ := h
    unfold argsOf at k
    cases q : argOf e w with
    | none => rw [q] at k; cases k
    | some a =>
      rw [q] at k
      dsimp only [Option.bind] at k
      cases q2 : argsOf e l with
      | none => rw [q2] at k; cases k
      | some as2 =>
        rw [q2] at k
        cases k
        obtain ⟨l1, l2, l3⟩ := hands_all I h2 q2
        refine ⟨by simp [l1], by simp [l2], fun j v z => ?_⟩
        cases j with
        | zero =>
          cases z
          exact ⟨a, x, rfl, rfl, hands_of I h1 q⟩
        | succ j =>
          obtain ⟨a', x', z1, z2, z3⟩ := l3 j v (by simpa using z)
          exact ⟨a', x', by simpa using z1, by simpa using z2, z3⟩
theorem mod_ne {e : VE} {i j : Nat} {f : SS → SS} (h : i ≠ j) : (e.modify i f)[j]? = e[j]? := by
  rw [List.getElem?_modify]
  simp only [if_neg h]
  cases e[j]? <;> rfl
theorem mod_eq {e : VE} {i : Nat} {s : SS} {f : SS → SS} (h : e[i]? = some s) : (e.modify i f)[i]? = some (f s) := by
  rw [List.getElem?_modify, h]
  simp
theorem vws_at : ∀ {vs : List Val} {j i : Nat}, vs[j]? = some (.vw i) → i ∈ vws vs
  | [], _, _, h => by simp at h
  | v :: l, 0, i, h => by
    simp at h; subst h
    unfold vws; exact List.mem_cons_self
  | v :: l, j + 1, i, h => by
    have := vws_at (vs := l) (j := j) (by simpa using h)
    cases v <;> unfold vws <;> first | exact List.mem_cons_of_mem _ this | exact this
theorem vws_inj : ∀ {vs : List Val} {j j' i : Nat}, (vws vs).Nodup → vs[j]? = some (.vw i) → vs[j']? = some (.vw i) → j = j'
  | [], _, _, _, _, h, _ => by simp at h
  | v :: l, 0, 0, i, _, _, _ => rfl
  | v :: l, 0, j' + 1, i, nd, h, h' => by
    simp at h; subst h
    unfold vws at nd
    exact absurd (vws_at (vs := l) (j := j') (by simpa using h')) (List.nodup_cons.mp nd).1
  | v :: l, j + 1, 0, i, nd, h, h' => by
    simp at h'; subst h'
    unfold vws at nd
    exact absurd (vws_at (vs := l) (j := j) (by simpa using h)) (List.nodup_cons.mp nd).1
  | v :: l, j + 1, j' + 1, i, nd, h, h' => by
    have nd' : (vws l).Nodup := by
      cases v <;> unfold vws at nd <;> first | exact (List.nodup_cons.mp nd).2 | exact nd
    have hr : j = j' := vws_inj (vs := l) (i := i) nd' (by simpa using h) (by simpa using h')
    rw [hr]
/-- lent objects behind the call -/
theorem putA_len : ∀ (vs : List Val) (as : List Arg) (e : VE), (putA vs as e).length = e.length
  | [], as, e => by cases as <;> (unfold putA; rfl)
  | v :: l, [], e => by cases v <;> (unfold putA; rfl)
  | v :: l, a :: m, e => by
    cases v with
    | vw i =>
      cases a with
      | o k c => unfold putA; rw [putA_len l m]; simp
      | p d => unfold putA; exact putA_len l m e
    | p d => unfold putA; exact putA_len l m e
    | fr c => unfold putA; exact putA_len l m e
theorem putA_off : ∀ (vs : List Val) (as : List Arg) (e : VE) (i : Nat), i ∉ vws vs → (putA vs as e)[i]? = e[i]?
  | [], as, e, i, _ => by cases as <;> (unfold putA; rfl)
  | v :: l, [], e, i, _ => by cases v <;> (unfold putA; rfl)
  | v :: l, a :: m, e, i, h => by
    cases v with
    | vw j =>
      unfold vws at h
      simp only [List.mem_cons, not_or] at h
      cases a with
      | o k c =>
        unfold putA
        rw [putA_off l m _ i h.2, mod_ne (fun z => h.1 z.symm)]
      | p d => unfold putA; exact putA_off l m e i h.2
    | p d => unfold putA; exact putA_off l m e i (by unfold vws at h; exact h)
    | fr c => unfold putA; exact putA_off l m e i (by unfold vws at h; exact h)
theorem putA_on : ∀ (vs : List Val) (as : List Arg) (e : VE) (j i : Nat) (b k k' : Bool) (c c' : OC), (vws vs).Nodup → vs[j]? = some (.vw i) → as[j]? = some (.o k' c') → e[i]? = some (.own b k c) → (putA vs as e)[i]? = some (.own b k c')
  | [], _, _, _, _, _, _, _, _, _, _, h, _, _ => by simp at h
  | _ :: _, [], _, _, _, _, _, _, _, _, _, _, h, _ => by simp at h
  | v :: l, a :: m, e, 0, i, b, k, k', c, c', nd, h, h', he => by
    simp at h h'
    subst h h'
    unfold vws at nd
    unfold putA
    rw [putA_off l m _ i (List.nodup_cons.mp nd).1, mod_eq he]
    rfl
  | v :: l, a :: m, e, j + 1, i, b, k, k', c, c', nd, h, h', he => by
    have h1 : l[j]? = some (.vw i) := by simpa using h
    have h2 : m[j]? = some (.o k' c') := by simpa using h'
    cases v with
    | vw i' =>
      unfold vws at nd
      have nd' := (List.nodup_cons.mp nd).2
      have ne : i' ≠ i := fun z => (List.nodup_cons.mp nd).1 (z ▸ vws_at h1)
      cases a with
      | o k2 c2 =>
        unfold putA
        refine putA_on l m _ j i b k k' c c' nd' h1 h2 ?_
        rw [mod_ne ne, he]
      | p d => unfold putA; exact putA_on l m e j i b k k' c c' nd' h1 h2 he
    | p d => unfold putA; unfold vws at nd; exact putA_on l m e j i b k k' c c' nd h1 h2 he
    | fr c => unfold putA; unfold vws at nd; exact putA_on l m e j i b k k' _ c' nd h1 h2 he
theorem vws_mem : ∀ {vs : List Val} {i : Nat}, i ∈ vws vs → ∃ j : Nat, vs[j]? = some (.vw i)
  | [], _, h => by simp [vws] at h
  | v :: l, i, h => by
    cases v with
    | vw i' =>
      unfold vws at h
      rcases List.mem_cons.mp h with rfl | h
      · exact ⟨0, rfl⟩
      · obtain ⟨j, q⟩ := vws_mem h; exact ⟨j + 1, by simpa using q⟩
    | p d => unfold vws at h; obtain ⟨j, q⟩ := vws_mem h; exact ⟨j + 1, by simpa using q⟩
    | fr c => unfold vws at h; obtain ⟨j, q⟩ := vws_mem h; exact ⟨j + 1, by simpa using q⟩
/-- the frame of the callee -/
theorem VS.enter (I : VS g Hb e σ H) {vs : List Val} {as : List Arg} {xs : List V} (nd : (vws vs).Nodup) (r : RKs g Hb e σ vs xs) (h : argsOf e vs = some as) :
    VS g Hb (aE as) (aS xs) H ∧ (∀ a, Ow g (aE as) (aS xs) a → Ow g e σ a) := by
  obtain ⟨l1, l2, l3⟩ := hands_all I r h
  have at1 : ∀ (j : Nat) a, as[j]? = some a → ∃ v x, vs[j]? = some v ∧ xs[j]? = some x ∧ Hands g Hb e σ v a x := fun j a z => by
    have hj : j < vs.length := by rw [← l1]; exact (List.getElem?_eq_some_iff.mp z).1
    obtain ⟨a', x, z1, z2, z3⟩ := l3 j vs[j] (List.getElem?_eq_getElem hj)
    rw [z] at z1; cases z1
    exact ⟨_, x, List.getElem?_eq_getElem hj, z2, z3⟩
  have own1 : ∀ (j : Nat) b k c, (aE as)[j]? = some (SS.own b k c) → ∃ i b0 a, vs[j]? = some (.vw i) ∧ xs[j]? = some (.ref a) ∧ b = true ∧ e[i]? = some (.own b0 k c) ∧ σ[i]? = some (some (.ref a)) := fun j b k c z => by
    rw [List.getElem?_map] at z
    cases q : as[j]? with
    | none => rw [q] at z; cases z
    | some a =>
      rw [q] at z
      cases a with
      | p d => cases z
      | o k' c' =>
        cases z
        obtain ⟨v, x, z1, z2, z3⟩ := at1 j _ q
        rcases z3 with ⟨d, z, _⟩ | ⟨i, b0, k0, c0, rfl, z, z4, z5⟩
        · cases z
        · cases z
          obtain ⟨a, e1, _, _⟩ := I.own i b0 _ _ z4
          rw [z5] at e1; cases e1
          exact ⟨i, b0, a, z1, z2, rfl, z4, z5⟩
  have sg : ∀ (j : Nat) (x : V), xs[j]? = some x → (aS xs)[j]? = some (some x) := fun j x z => by rw [List.getElem?_map, z]; rfl
  have sg' : ∀ (j : Nat) (x : V), (aS xs)[j]? = some (some x) → xs[j]? = some x := fun j x z => by
    rw [List.getElem?_map] at z
    cases q : xs[j]? with
    | none => rw [q] at z; cases z
    | some y => rw [q] at z; cases z; rfl
  refine ⟨⟨by simp [l1, l2], I.ex, fun j d z => ?_, fun j b k c z => ?_, fun j j' b k c b' k' c' a z z' s s' => ?_, I.tok, I.tbn⟩, fun a z => ?_⟩
  · rw [List.getElem?_map] at z
    cases q : as[j]? with
    | none => rw [q] at z; cases z
    | some a =>
      rw [q] at z
      cases a with
      | o k c => cases z
      | p d' =>
        cases z
        obtain ⟨v, x, z1, z2, z3⟩ := at1 j _ q
        rcases z3 with ⟨d, z, r⟩ | ⟨i, b0, k0, c0, rfl, z, _⟩
        · cases z; exact ⟨x, sg j x z2, r⟩
        · cases z
  · obtain ⟨i, b0, a, z1, z2, rfl, z4, z5⟩ := own1 j b k c z
    obtain ⟨a', e1, e2, e3⟩ := I.own i b0 k c z4
    rw [z5] at e1; cases e1
    exact ⟨a, sg j _ z2, e2, e3⟩
  · obtain ⟨i, b0, a1, z1, z2, rfl, z4, z5⟩ := own1 j b k c z
    obtain ⟨i', b0', a2, z1', z2', rfl, z4', z5'⟩ := own1 j' b' k' c' z'
    have e1 := sg' _ _ s
    have e2 := sg' _ _ s'
    rw [z2] at e1; cases e1
    rw [z2'] at e2; cases e2
    have := I.inj i i' b0 k c b0' k' c' a z4 z4' z5 z5'
    subst this
    exact vws_inj nd z1 z1'
  · rcases z with z | ⟨j, b, k, c, z1, z2⟩
    · exact .inl z
    · obtain ⟨i, b0, a1, y1, y2, rfl, y4, y5⟩ := own1 j b k c z1
      have e1 := sg' _ _ z2
      rw [y2] at e1; cases e1
      exact .inr ⟨i, b0, k, c, y4, y5⟩
/-- back in the caller's frame -/
theorem VS.leave (I : VS g Hb e σ H) {vs : List Val} {as as' : List Arg} {xs : List V} {Hb' H' : Hp} (nd : (vws vs).Nodup) (r : RKs g Hb e σ vs xs) (h : argsOf e vs = some as)
    (vp : VP (Ow g (aE as) (aS xs)) Hb H (Ow g (aE as') (aS xs)) Hb' H') (I' : VS g Hb' (aE as') (aS xs) H') (ak : AK as as') : PK g σ Hb H e Hb' H' (putA vs as' e) := by
  obtain ⟨l1, l2, l3⟩ := hands_all I r h
  have hsub := (I.enter nd r h).2
  have sg : ∀ (j : Nat) (x : V), xs[j]? = some x → (aS xs)[j]? = some (some x) := fun j x z => by rw [List.getElem?_map, z]; rfl
  -- each own slot of the caller
  have each : ∀ (i : Nat) b k c, e[i]? = some (SS.own b k c) → (i ∉ vws vs ∧ (putA vs as' e)[i]? = some (.own b k c)) ∨ ∃ (j : Nat) (x : V) (c' : OC), vs[j]? = some (Val.vw i) ∧ as[j]? = some (Arg.o k c) ∧ as'[j]? = some (Arg.o k c') ∧ (k = true → c' = c) ∧ xs[j]? = some x ∧ σ[i]? = some (some x) ∧ (putA vs as' e)[i]? = some (.own b k c') := fun i b k c z => by
    by_cases m : i ∈ vws vs
    · right
      obtain ⟨j, hj⟩ := vws_mem m
      obtain ⟨a, x, z1, z2, z3⟩ := l3 j _ hj
      rcases z3 with ⟨d, rfl, _⟩ | ⟨i', b0, k0, c0, ev, rfl, z4, z5⟩
      · exfalso
        -- the slot holds data: no
        have : argOf e (.vw i) = some (.p d) := by
          have hh : ∀ {vs : List Val} {as : List Arg} {j : Nat} {v : Val} {a : Arg}, argsOf e vs = some as → vs[j]? = some v → as[j]? = some a → argOf e v = some a := by
            intro vs
            induction vs with
            | nil => intro as j v a _ h; simp at h
            | cons w l ih =>
              intro as j v a hk hv ha
              unfold argsOf at hk
              cases q : argOf e w with
              | none => rw [q] at hk; cases hk
              | some a0 =>
                rw [q] at hk
                dsimp only [Option.bind] at hk
                cases q2 : argsOf e l with
                | none => rw [q2] at hk; cases hk
                | some as2 =>
                  rw [q2] at hk
                  cases hk
                  cases j with
                  | zero => simp at hv ha; subst hv ha; exact q
                  | succ j => exact ih q2 (by simpa using hv) (by simpa using ha)
          exact hh h hj z1
        dsimp only [argOf] at this
        rw [z] at this
        cases this
      · cases ev
        rw [z] at z4; cases z4
        obtain ⟨a', y1, y2⟩ := ak.at' j _ z1
        have y3 : ∃ c', a' = .o k c' ∧ (k = true → c' = c) := by
          cases y2 with
          | same => exact ⟨c, rfl, fun _ => rfl⟩
          | turn _ c' => exact ⟨c', rfl, fun w => by cases w⟩
        obtain ⟨c', rfl, y4⟩ := y3
        exact ⟨j, x, c', hj, z1, y1, y4, z2, z5, putA_on vs as' e j i b k k c c' nd hj y1 z⟩
    · exact .inl ⟨m, by rw [putA_off vs as' e i m]; exact z⟩
  have nown : ∀ (i : Nat) s, e[i]? = some s → (∀ b k c, s ≠ .own b k c) → (putA vs as' e)[i]? = some s := fun i s z hs => by
    have gen : ∀ (vs : List Val) (as : List Arg) (e : VE), e[i]? = some s → (putA vs as e)[i]? = some s := by
      intro vs
      induction vs with
      | nil => intro as e z; cases as <;> (unfold putA; exact z)
      | cons v l ih =>
        intro as e z
        cases as with
        | nil => cases v <;> (unfold putA; exact z)
        | cons a m =>
          cases v with
          | p d => unfold putA; exact ih m e z
          | fr d => unfold putA; exact ih m e z
          | vw j =>
            cases a with
            | p d => unfold putA; exact ih m e z
            | o k c =>
              unfold putA
              refine ih m _ ?_
              by_cases w : j = i
              · subst w
                rw [mod_eq z]
                cases s with
                | own b k c => exact absurd rfl (hs b k c)
                | un => rfl
                | dat d => rfl
              · rw [mod_ne w, z]
    exact gen vs as' e z
  have len : (putA vs as' e).length = e.length := putA_len _ _ _
  have from' : ∀ (i : Nat) s', (putA vs as' e)[i]? = some s' → ∃ s, e[i]? = some s := fun i s' z => by
    have hi : i < e.length := by rw [← len]; exact (List.getElem?_eq_some_iff.mp z).1
    exact ⟨_, List.getElem?_eq_getElem hi⟩
  have ownb : ∀ (i : Nat) b k c', (putA vs as' e)[i]? = some (SS.own b k c') → ∃ c, e[i]? = some (.own b k c) := fun i b k c' z => by
    obtain ⟨s, hs⟩ := from' i _ z
    cases s with
    | un => rw [nown i _ hs (by simp)] at z; cases z
    | dat d => rw [nown i _ hs (by simp)] at z; cases z
    | own b0 k0 c0 =>
      rcases each i b0 k0 c0 hs with ⟨_, w⟩ | ⟨j, x, c2, _, _, _, _, _, _, w⟩ <;> (rw [w] at z; cases z; exact ⟨_, hs⟩)
  have ek : EK e (putA vs as' e) := ⟨len, fun i s z => by
    cases s with
    | un => exact ⟨_, nown i _ z (by simp), .same _⟩
    | dat d => exact ⟨_, nown i _ z (by simp), .same _⟩
    | own b k c =>
      rcases each i b k c z with ⟨_, w⟩ | ⟨j, x, c2, _, _, _, w2, _, _, w⟩
      · exact ⟨_, w, .same _⟩
      · refine ⟨_, w, ?_⟩
        cases k with
        | true => rw [w2 rfl]; exact .same _
        | false => exact .turn b c c2⟩
  have out : ∀ (i : Nat) b k c a, e[i]? = some (SS.own b k c) → i ∉ vws vs → σ[i]? = some (some (.ref a)) → ¬ Ow g (aE as) (aS xs) a := fun i b k c a z m s w => by
    rcases w with w | ⟨j, b', k', c', w1, w2⟩
    · obtain ⟨a', e1, _, ro⟩ := I.own i b k c z
      rw [s] at e1; cases e1
      obtain ⟨u, hu, n1, _⟩ := ro.there
      obtain ⟨ps, q⟩ := (I.tbn a w).2
      rw [q] at hu; cases hu
      exact n1 ps rfl
    · -- the callee's own slot is a caller's slot
      rw [List.getElem?_map] at w1
      cases q : as[j]? with
      | none => rw [q] at w1; cases w1
      | some ar =>
        rw [q] at w1
        cases ar with
        | p d => cases w1
        | o k2 c2 =>
          have hj : j < vs.length := by rw [← l1]; exact (List.getElem?_eq_some_iff.mp q).1
          obtain ⟨a', x, z1, z2, z3⟩ := l3 j vs[j] (List.getElem?_eq_getElem hj)
          rw [q] at z1; cases z1
          rcases z3 with ⟨d, z4, _⟩ | ⟨i', b0, k0, c0, ev, z4, z5, z6⟩
          · cases z4
          · have e1 := sg j x z2
            rw [w2] at e1; cases e1
            have := I.inj i i' b k c b0 k0 c0 a z z5 s z6
            subst this
            exact m (vws_at (j := j) (by rw [List.getElem?_eq_getElem hj, ev]))
  refine ⟨vp.widen hsub fun a w => .inl (ek.ow w), ⟨by rw [len]; exact I.len, I'.ex, fun i d z => ?_, fun i b k c' z => ?_, fun i j b k c b' k' c' a z1 z2 s1 s2 => ?_, I'.tok, I'.tbn⟩, ek⟩
  · obtain ⟨s, hs⟩ := from' i _ z
    cases s with
    | un => rw [nown i _ hs (by simp)] at z; cases z
    | dat d' =>
      rw [nown i _ hs (by simp)] at z; cases z
      obtain ⟨v, e1, e2⟩ := I.dat i d hs
      exact ⟨v, e1, Rp.mono vp.b d v e2⟩
    | own b k c =>
      rcases each i b k c hs with ⟨_, w⟩ | ⟨j, x, c2, _, _, _, _, _, _, w⟩ <;> (rw [w] at z; cases z)
  · obtain ⟨c, hs⟩ := ownb i b k c' z
    rcases each i b k c hs with ⟨m, w⟩ | ⟨j, x, c2, hj, w1, w2, _, w4, w5, w⟩
    · rw [w] at z; cases z
      obtain ⟨a, e1, e2, e3⟩ := I.own i b k _ hs
      have no := out i b k _ a hs m e1
      obtain ⟨u, hu, _⟩ := e3.there
      refine ⟨a, e1, ?_, e3.mono vp.b fun o q => vp.k a o q no⟩
      cases q : Hb' a with
      | none => rfl
      | some v =>
        rcases vp.n a v q with y | y | y
        · rw [e2] at y; cases y
        · rw [hu] at y; cases y
        · exact absurd y no
    · rw [w] at z; cases z
      have q : (aE as')[j]? = some (SS.own true k c') := by rw [List.getElem?_map, w2]; rfl
      obtain ⟨a, e1, e2, e3⟩ := I'.own j true k c' q
      rw [sg j x w4] at e1; cases e1
      exact ⟨a, w5, e2, e3⟩
  · obtain ⟨c1, h1⟩ := ownb i b k c z1
    obtain ⟨c2, h2⟩ := ownb j b' k' c' z2
    exact I.inj i j b k c1 b' k' c2 a h1 h2 s1 s2
end
end Vd
namespace Vd
open PySem PySem.Spec PyProof.Rows L2
section
variable {g : Gx} {kk : Nat} {X : Cx} {W : WX} {ce : CE}
theorem evs_len : ∀ {ts : List T} {e : VE} {vs : List Val} {e1 : VE}, evs ce ts e = .ok vs e1 → vs.length = ts.length
  | [], e, vs, e1, h => by rw [evs] at h; cases h; rfl
  | t :: ts, e, vs, e1, h => by
    rw [evs] at h
    cases q : ev ce t e with
    | rz x e2 => rw [q] at h; cases h
    | no => rw [q] at h; cases h
    | ok v e2 =>
      rw [q] at h
      dsimp only [R.bind] at h
      cases q2 : evs ce ts e2 with
      | rz x e2 => rw [q2] at h; cases h
      | no => rw [q2] at h; cases h
      | ok r e3 =>
        rw [q2] at h
        cases h
        rw [List.length_cons, List.length_cons, evs_len q2]
theorem RVs.length {H0 Hb H : Hp} {e : VE} {σ : L2.St} : ∀ {vs : List Val} {xs : List V}, RVs g H0 Hb H e σ vs xs → xs.length = vs.length
  | [], _, h => by cases h; rfl
  | v :: l, _, h => by
    obtain ⟨x, r, rfl, _, h2, _⟩ := h
    rw [List.length_cons, List.length_cons, RVs.length h2]
/-- the arguments at hand, the promise is met -/
theorem call_go {σ : L2.St} {Hb H Hb1 H1 : Hp} {e e1 : VE} {f n : Nat} {vs : List Val} {xs : List V} {Q : VK} (hn : vs.length = n) (p1 : PK g σ Hb H e Hb1 H1 e1) (r1 : RVs g H Hb1 H1 e1 σ vs xs)
    (h : CA (PV g σ) g W σ Hb H e (callR ce f vs e1) Q) : spD g n (ce.fn f) xs H1 Q (WE W σ) := by
  unfold callR at h
  by_cases nd : (vws vs).Nodup
  · rw [if_pos nd] at h
    cases q : argsOf e1 vs with
    | none => rw [q] at h; exact h.elim
    | some as =>
      rw [q] at h
      dsimp only at h
      obtain ⟨Hb2, p2, b2, k2⟩ := RVs.keep p1 r1
      have en := p2.st.enter nd k2 q
      refine ⟨by rw [r1.length, hn], as, Hb2, en.1, ?_⟩
      cases q3 : ce.fn f as with
      | no => rw [q3] at h; exact h
      | rz xd as' =>
        rw [q3] at h
        intro cls d Hb' H' vp I' ak rx
        exact h cls d Hb' H' (p2.trans (p2.st.leave nd k2 q vp I' ak)) rx
      | ok r as' =>
        rw [q3] at h
        intro x Hb' H' vp I' ak rv
        have pk := p2.st.leave nd k2 q vp I' ak
        refine h x Hb' H' (p2.trans pk) ?_
        cases r with
        | p d => exact rv
        | fr c =>
          obtain ⟨a, rfl, h0, hb, ro, no⟩ := rv
          exact ⟨a, rfl, p2.vp.t a h0, hb, ro, fun z => not_ow p2.st h0 (pk.ek.ow z)⟩
  · rw [if_neg nd] at h; exact h.elim
/-- a def called by its name -/
theorem se_call {f : Nat} {k : Nat} {addr : Addr} {fd : FuncData} {ps : List Str} {a : Expr} {es : List Expr} {ts : List T} {x : Str} {p pos : Pos} (G : Good g kk X W) (hF : FnOk X.prog X.w X.K X.mg X.base (L2.CX X.prog X.w) k addr fd ps (spD g ps.length (ce.fn f)))
    (hk : k ≤ kk) (hg : Gl X x) (hm : X.mg x = some (.ref addr)) (hkeep : PySem.W.keepIn X.K (.ref addr) = true) (hb : Binds X.K fd ps []) (hdb : (x == ("__debug__" : Str)) = false) (hn : ts.length = ps.length) (hs : (a :: es).all noStar = true) (ha : SA g X W (a :: es) (evs ce ts)) :
    SE g X W (.Call (.Name x p) (a :: es) [] pos) (ev ce (.call f ts)) := by
  intro e σ Hb H Q I h
  rw [ev] at h
  rw [List.all_cons, Bool.and_eq_true] at hs
  refine tW_of (pe_callSD hF (G.rm.mono hk) hg hm hkeep hb .nil (fun σ => passAt G.tk σ) (pa_W X _) hdb (star1 hs.1 es X.env) (plain_es hs.2)) ?_
  refine ha e σ Hb H _ I ?_
  cases q1 : evs ce ts e with
  | no => rw [q1] at h; exact h
  | rz xd e1 => rw [q1] at h; exact h
  | ok vs e1 =>
    rw [q1] at h
    intro xs Hb1 H1 p1 r1
    rw [List.append_nil]
    exact call_go (by rw [evs_len q1, hn]) p1 r1 h
/-- .. without arguments -/
theorem se_call0 {f : Nat} {k : Nat} {addr : Addr} {fd : FuncData} {x : Str} {p pos : Pos} (G : Good g kk X W) (hF : FnOk X.prog X.w X.K X.mg X.base (L2.CX X.prog X.w) k addr fd [] (spD g 0 (ce.fn f)))
    (hk : k ≤ kk) (hg : Gl X x) (hm : X.mg x = some (.ref addr)) (hkeep : PySem.W.keepIn X.K (.ref addr) = true) (hb : Binds X.K fd [] []) (hdb : (x == ("__debug__" : Str)) = false) :
    SE g X W (.Call (.Name x p) [] [] pos) (ev ce (.call f [])) := by
  intro e σ Hb H Q I h
  rw [ev] at h
  simp only [evs, R.bind_ok] at h
  intro pins s J
  refine wpAny_Call_Name_kw (ld_glob J hg hm ?_ hdb)
  refine PySem.W.callWith_K0 J.kIn hkeep (run_fnSD (us := []) (vs := []) (dvs := []) (E := WE W) hF (G.rm.mono hk) hb .nil (passAt G.tk σ) J .nil ?_)
  exact call_go (vs := []) (xs := []) rfl (.refl I) rfl h
end
end Vd
/-! Vd12: what is walked by for and in comprehensions. -/
namespace Vd
open PySem PySem.Spec PyProof.Rows L2

/-! ### enumerate of a tuple -/
theorem meets_enum1 {v : Value} {o : Obj} {P : Heap → Prop} (B : Begins v o P) :
    Meets (Builtin.«enumerate.__new__» ⟨[.type "enumerate", v], []⟩) (fun _ R s => P s.heap ∧
      R (.ok (.ret (.ref (s.heap.push o).objs.size))) { s with heap := (s.heap.push o).push { cls := .type "enumerate", data := .fields #[.none, .bool false, .ref s.heap.objs.size, rawInt 0, .none, .none] } }) :=
  .of_wp fun prog w A R s h => by
    obtain ⟨hp, g, d, tk, os⟩ := s
    obtain ⟨h1, h⟩ := h
    have hsub := sub_enumerate
    have q1 : ∀ {A' : Around} {E : Value → Shared → Prop} {Q : Value → Shared → Prop}, Q (.ref hp.objs.size) ⟨hp.push o, g, d, tk, os⟩ → wpAny (model prog w) A' (pyIter v) Q E ⟨hp, g, d, tk, os⟩ :=
      fun q => B.iter prog w _ _ ⟨hp, g, d, tk, os⟩ _ h1 q
    wp_walk using q1
    refine wpAny_stack_any fun st => wpAny_pure ?_
    split
    · rename_i c _ _ _ _ _
      cases (c == Value.type "enumerate") <;> (wp_walk using q1; exact ⟨_, rfl, h⟩)
    · wp_walk using q1
      exact ⟨_, rfl, h⟩
theorem enum_call1 {prog : Program} {w : World} {A : Around} {E : Value → Shared → Prop} {s : Shared} {v : Value} {o : Obj} {P : Heap → Prop} {Q : Value → Shared → Prop} (B : Begins v o P) (h1 : P s.heap)
    (h : ∀ h', IsEnum h' (s.heap.objs.size + 1) s.heap.objs.size 0 .none → h'.get? s.heap.objs.size = some o → (∀ b o, s.heap.get? b = some o → h'.get? b = some o) → Q (.ref (s.heap.objs.size + 1)) { s with heap := h' }) :
    wpAny (model prog w) A (call (.type "enumerate") [v]) Q E s := by
  refine callType_new F.called_enumerate (by decide) (F.typeCall_enumerate_1 _) (F.newCall_enumerate_1 _) (fun obj => F.args_object_init_2 obj _) F.entry_enumerate_new (meets_enum1 B) ⟨h1, ?_⟩
  have hz : (s.heap.push o).objs.size = s.heap.objs.size + 1 := Heap.size_push ..
  show _ ∧ _
  rw [hz]
  have he : IsEnum ((s.heap.push o).push { cls := .type "enumerate", data := .fields #[.none, .bool false, .ref s.heap.objs.size, rawInt 0, .none, .none] }) (s.heap.objs.size + 1) s.heap.objs.size 0 .none := by
    have z := Heap.get?_push_size (s.heap.push o) (o := { cls := .type "enumerate", data := .fields #[.none, .bool false, .ref s.heap.objs.size, rawInt 0, .none, .none] }) rfl
    rw [hz] at z; exact z
  exact ⟨⟨_, he, rfl⟩, h _ he (Heap.get?_push_of_some _ (Heap.get?_push_size _ B.free)) fun b o x => Heap.get?_push_of_some _ (Heap.get?_push_of_some _ x)⟩
/-- the tuple at a, each item in a new pair -/
def Iet (K : PySem.W.Frag) (a : Addr) : It :=
  ⟨fun i H => ∃ (xs : List V) (x : V), SqT K H a xs ∧ xs[i]? = some x, fun i H v H' => ∃ T x, v = .ref T ∧ H T = none ∧ H' = upd H T (.tup [.int (i : Nat), x]) ∧ ∀ xs, SqT K H a xs → xs[i]? = some x, fun i H => ∃ xs : List V, SqT K H a xs ∧ xs.length ≤ i⟩
theorem turn_enumT {P : Program} {w : World} {K : PySem.W.Frag} {elts : List Expr} {kk : Nat} {tpos : Pos} (a e it : Addr) :
    Turn P w K (.Tuple elts kk tpos) (Iet K a) [e, it] e (fun i h => (∃ old, IsEnum h e it ((i : Nat) : Int) old) ∧ h.IsTupleIter it a i ∧ e ≠ it ∧ a ≠ it ∧ a ≠ e) where
  mem := by simp
  obj := fun i h st b hb => by
    obtain ⟨⟨old, he⟩, ⟨o, ho, hc, hd⟩, _⟩ := st
    rcases (show b = e ∨ b = it by simpa using hb) with z | z
    · rw [z]; exact ⟨_, he, fun v q => nomatch q⟩
    · rw [z]; exact ⟨o, ho, fun v q => by rw [hd] at q; cases q⟩
  keep := fun i h h' st k => let ⟨⟨old, he⟩, hi, hne⟩ := st; ⟨⟨old, k e (by simp) _ he⟩, hi.at fun o q => k it (by simp) o q, hne⟩
  item := by
    intro X hP hw hK hc i pins s σ H E I hf st hg
    subst hP hw hK
    obtain ⟨⟨old, he⟩, hit, hne, hai, hae⟩ := st
    obtain ⟨xs, x, hq, hx⟩ := hg
    obtain ⟨its, rv, p, hz⟩ := I.tuple hq
    obtain ⟨u, hu, ru⟩ := rv.get hx
    have hel : e < s.heap.objs.size := Heap.lt_size he
    have hil : it < s.heap.objs.size := by obtain ⟨_, q, _⟩ := hit; exact Heap.lt_size q
    have hh : X.A.handled = none := I.ok.hd hc
    have D := Draws.tuple (prog := X.prog) (w := X.w) (A := X.A.in1) hh it a hai its.toArray
    have hi : i < its.toArray.size := by
      have := (List.getElem?_eq_some_iff.mp hu).1
      simpa using this
    refine wpAny_pyNext_enum_itemD D he ⟨hit, p⟩ hi hne (by simp [hne, Ne.symm hae]) fun y h' tk hy ho st' hT hsz hk => ?_
    have ey : y = u := by
      have : its.toArray[i]? = some u := by simpa using hu
      rw [this] at hy; exact (Option.some.inj hy).symm
    subst ey
    refine ⟨_, rfl, wpAny_letOwnedTupleGo_enum (s := { s with heap := h', toks := tk + 1 }) ho fun h'' he' sb => ?_⟩
    have hT2 : h''.get? s.heap.objs.size = some { cls := .type "tuple", data := .seq #[.int i tk, y] } := (sb.2 _ (Nat.ne_of_gt hel)).trans hT
    have new : ObjOk X.prog X.w (upd H s.heap.objs.size (.tup [.int (i : Nat), x])) h'' s.heap.objs.size (.tup [.int (i : Nat), x]) :=
      ⟨by show 2 ≤ sizeLine; decide, [.int i tk, y], .cons ⟨_, rfl⟩ (.cons ru .nil), ⟨_, hT2, rfl, _, rfl⟩⟩
    have I1 : Inv X pins σ (upd H s.heap.objs.size (.tup [.int (i : Nat), x])) { s with heap := h'', toks := tk + 1 } :=
      I.turnedNew (ch := [e, it]) (fun b ob hb q => (sb.2 b (fun z => hb (by simp [z]))).trans (hk b ob (fun z => hb (by simp [z])) (fun z => hb (by simp [z])) q)) hf (Nat.le_refl _) new
    refine ⟨.ref s.heap.objs.size, _, I1, rfl, ⟨_, x, rfl, I.hok.fresh (Nat.le_refl _), rfl, fun ys hy => by rw [I.tuple_inj hy hq]; exact hx⟩, ⟨⟨y, ?_⟩, st'.1.at fun o q => (sb.2 it (Ne.symm hne)).trans q, hne, hai, hae⟩, fun b hb => ?_⟩
    · rw [show ((i + 1 : Nat) : Int) = (i : Int) + 1 by omega]; exact he'
    · have hb' : b < s.heap.objs.size := by
        rcases (show b = e ∨ b = it by simpa using hb) with z | z
        · rw [z]; exact hel
        · rw [z]; exact hil
      rw [upd_ne (Nat.ne_of_lt hb')]
      exact (hf b hb).1
  done := by
    intro X hP hw hK hc i pins s σ H E I hf st hg
    subst hP hw hK
    obtain ⟨⟨old, he⟩, hit, hne, hai, hae⟩ := st
    obtain ⟨xs, hq, hx⟩ := hg
    obtain ⟨its, rv, p, hz⟩ := I.tuple hq
    obtain ⟨f0, f1, f2, f3, f4, f5⟩ := hf it (by simp)
    have hl := rv.length
    have hh : X.A.handled = none := I.ok.hd hc
    have hz : its.toArray[i]? = none := by simp; omega
    have hT : s.TypeIs (.ref e) "enumerate" := ⟨_, he, rfl⟩
    unfold pyNext
    refine wpAny_bind (wpAny_attempt (wpAny_callSpecial?_slot (name := Str.ofString "__next__") hT F.slot_enumerate_next
      (wpAny_call_entry F.slot_enumerate_next hT F.entry_enumerate_next ?_ (F.args_enumerate_next_1 _))))
    show wpAny _ _ (field (.ref e) 2 >>= _) _ _ _
    refine wpAny_bind (wpAny_field he rfl (x := .ref it) rfl ?_)
    refine wpAny_bind (wpAny_nextOf_tuple_end (A := X.A.in1) hh hit p hz fun h' x he' hx' => ?_)
    obtain ⟨o, ho, hcl⟩ := hx'
    refine wpAny_bind (wpAny_isInstance (T := "StopIteration") (b := true) ⟨o, ho, hcl⟩ isSubtype_stop ?_)
    exact wpAny_pure ⟨rfl, I.turned (t' := s.toks) (fun b o hb q => he' b o hb q) f0 f1 f3 f4 f5⟩
  self := fun A i s Q E st h => let ⟨⟨_, he⟩, _⟩ := st; wpAny_pyIter_enum he h
def iEnumT (K : PySem.W.Frag) (ta : TA) : TI := fun σ H R => ta σ H fun vs H1 => ∃ a xs, vs = [.ref a] ∧ SqT K H1 a xs ∧ R (Iet K a) H1
theorem pi_enumT {X : Cx} {e : Expr} {ta : TA} {p pos tpos : Pos} {elts : List Expr} {kk : Nat} (hg : Gl X "enumerate") (hm : X.mg "enumerate" = none) (ha : PA X [e] ta) (hs : starEach [e] X.env = [(false, eval e X.env)]) :
    PI X (.Tuple elts kk tpos) (.Call (.Name "enumerate" p) [e] [] pos) (iEnumT X.K ta) := by
  refine ⟨fun pins s σ H R I h => Call_ (ld_blt I hg hm boot_enumerate (callWith_type1 (thn (ha.run pos pins s σ H _ I h) fun us s1 ⟨vs, H1, I1, r1, a, xs, ex, hq, q⟩ => ?_) hs rfl))⟩
  subst ex
  cases r1 with
  | cons r rr =>
    cases rr
    cases r
    obtain ⟨its, rv, p', hz⟩ := I1.tuple hq
    have hal : a < s1.heap.objs.size := by obtain ⟨_, q, _⟩ := p'; exact Heap.lt_size q
    refine enum_call1 (begins_tuple a its.toArray) p' fun h' he hit hk => wpAny_pyIter_enum he ?_
    have I2 : Inv X pins σ H1 { s1 with heap := h' } := I1.kept (t' := s1.toks) hk
    refine ⟨s1.heap.objs.size + 1, [s1.heap.objs.size + 1, s1.heap.objs.size], _, _, H1, rfl, I2, turn_enumT a (s1.heap.objs.size + 1) s1.heap.objs.size, ⟨⟨.none, he⟩, ⟨_, hit, rfl, rfl⟩, Nat.succ_ne_self _, Nat.ne_of_lt hal, Nat.ne_of_lt (Nat.lt_succ_of_lt hal)⟩, fun b hb => ?_, q⟩
    have hle : s1.heap.objs.size ≤ b := by
      rcases (show b = s1.heap.objs.size + 1 ∨ b = s1.heap.objs.size by simpa using hb) with z | z
      · rw [z]; exact Nat.le_add_right _ _
      · rw [z]; exact Nat.le_refl _
    exact I1.fpOk hle (I1.hok.fresh hle)
end Vd
/-! Vd13: iterators, sound. -/
namespace Vd
open PySem PySem.Spec PyProof.Rows L2
section
variable {g : Gx} {kk : Nat} {X : Cx} {W : WX} {ce : CE}
structure JOk (g : Gx) (ds : List D) (xs : List V) (its : List D) (J : It) : Prop where
  go : ∀ (Hb H : Hp) (i : Nat) (d : D), Ex Hb H → RRs g Hb H ds xs → its[i]? = some d → J.go i H ∧ ∀ x H', J.yld i H x H' → (H' = H ∧ Rp g Hb d x) ∨ ∃ p o, H p = none ∧ H' = upd H p o ∧ Rp g (upd Hb p o) d x
  stop : ∀ (Hb H : Hp) (i : Nat), Ex Hb H → RRs g Hb H ds xs → its.length ≤ i → J.stop i H
theorem RRs.of1 {Hb H : Hp} {d : D} {x : V} (h : RRs g Hb H [d] [x]) : RR g Hb H d x := by
  obtain ⟨y, e, r⟩ := h.one
  cases e; exact r
theorem RRs.of2 {Hb H : Hp} {d d' : D} {x y : V} (h : RRs g Hb H [d, d'] [x, y]) : RR g Hb H d x ∧ RR g Hb H d' y := by
  obtain ⟨u, v, e, r, r'⟩ := h.two
  cases e; exact ⟨r, r'⟩
theorem jok_list (hK : X.K = g.K) {l : List D} {a : Addr} : JOk g [.lst l] [.ref a] l (Itl X.K a) where
  go := fun Hb H i d ex h hi => by
    obtain ⟨b, vs, e, h1, h2⟩ := h.of1
    cases e
    have hq : SqL X.K H a vs := by rw [hK]; exact h1
    obtain ⟨v, e1, e2⟩ := h2.get hi
    exact ⟨⟨vs, v, hq, e1⟩, fun x H' ⟨hh, hx⟩ => .inl ⟨hh, by
      have := hx vs hq
      rw [e1] at this; cases this; exact e2⟩⟩
  stop := fun Hb H i ex h hi => by
    obtain ⟨b, vs, e, h1, h2⟩ := h.of1
    cases e
    exact ⟨vs, by rw [hK]; exact h1, by rw [h2.length]; exact hi⟩
theorem jok_tup (hK : X.K = g.K) {l : List D} {a : Addr} : JOk g [.tup l] [.ref a] l (Itt X.K a) where
  go := fun Hb H i d ex h hi => by
    obtain ⟨b, vs, e, h1, h2⟩ := h.of1
    cases e
    have hq : SqT X.K H a vs := by rw [hK]; exact ex.sqt h1
    obtain ⟨v, e1, e2⟩ := h2.get hi
    exact ⟨⟨vs, v, hq, e1⟩, fun x H' ⟨hh, hx⟩ => .inl ⟨hh, by
      have := hx vs hq
      rw [e1] at this; cases this; exact e2⟩⟩
  stop := fun Hb H i ex h hi => by
    obtain ⟨b, vs, e, h1, h2⟩ := h.of1
    cases e
    exact ⟨vs, by rw [hK]; exact ex.sqt h1, by rw [h2.length]; exact hi⟩
theorem jok_str {l : List Nat} {x : V} : JOk g [.str l] [x] (l.map fun c => .str [c]) (Its (sT l)) where
  go := fun Hb H i d ex h hi => by
    have hs : (sT l).cps = l.toArray := rfl
    rw [List.getElem?_map] at hi
    cases q : l[i]? with
    | none => rw [q] at hi; cases hi
    | some c =>
      rw [q] at hi
      cases hi
      have hlt := (List.getElem?_eq_some_iff.mp q).1
      refine ⟨by show i < (sT l).cps.size; rw [hs]; simpa using hlt, fun y H' ⟨hh, c', e1, e2⟩ => .inl ⟨hh, ?_⟩⟩
      rw [hs] at e1
      have : c' = c := by
        have z : l[i]? = some c' := by simpa using e1
        rw [q] at z; exact (Option.some.inj z).symm
      subst this
      exact ⟨e2, by rw [← line_eq]; show 1 ≤ line; decide⟩
  stop := fun Hb H i ex h hi => by
    show (sT l).cps.size ≤ i
    have hs : (sT l).cps = l.toArray := rfl
    rw [hs]; simpa using hi
theorem jok_rng1 {n : Int} {x : V} : JOk g [.int n] [x] ((List.range n.toNat).map fun k => .int (k : Nat)) (Itr 0 n.toNat) where
  go := fun Hb H i d ex h hi => by
    rw [List.getElem?_map] at hi
    cases q : (List.range n.toNat)[i]? with
    | none => rw [q] at hi; cases hi
    | some c =>
      rw [q] at hi
      cases hi
      obtain ⟨h1, h2⟩ := List.getElem?_eq_some_iff.mp q
      rw [List.getElem_range] at h2
      subst h2
      exact ⟨by rw [List.length_range] at h1; exact h1, fun x H' ⟨hh, hx⟩ => .inl ⟨hh, by rw [hx]; show V.int _ = V.int _; congr 1; omega⟩⟩
  stop := fun Hb H i ex h hi => by rw [List.length_map, List.length_range] at hi; exact hi
theorem jok_rng2 {a b : Int} {xs : List V} : JOk g [.int a, .int b] xs ((List.range (b - a).toNat).map fun (k : Nat) => .int (a + (k : Int))) (Itr a (b - a).toNat) where
  go := fun Hb H i d ex h hi => by
    rw [List.getElem?_map] at hi
    cases q : (List.range (b - a).toNat)[i]? with
    | none => rw [q] at hi; cases hi
    | some c =>
      rw [q] at hi
      cases hi
      obtain ⟨h1, h2⟩ := List.getElem?_eq_some_iff.mp q
      rw [List.getElem_range] at h2
      subst h2
      exact ⟨by rw [List.length_range] at h1; exact h1, fun x H' ⟨hh, hx⟩ => .inl ⟨hh, by rw [hx]; rfl⟩⟩
  stop := fun Hb H i ex h hi => by rw [List.length_map, List.length_range] at hi; exact hi
theorem enumF_get : ∀ (l : List D) (n i : Nat) (d : D), (enumF n l)[i]? = some d → ∃ c, l[i]? = some c ∧ d = .tup [.int ((n + i : Nat) : Int), c]
  | [], n, i, d, h => by simp [enumF] at h
  | c :: l, n, 0, d, h => by
    simp [enumF] at h
    exact ⟨c, rfl, by rw [← h]; rfl⟩
  | c :: l, n, i + 1, d, h => by
    simp [enumF] at h
    obtain ⟨c', e1, e2⟩ := enumF_get l (n + 1) i d h
    exact ⟨c', by simpa using e1, by rw [e2, show n + 1 + i = n + (i + 1) by omega]⟩
theorem enumF_len : ∀ (l : List D) (n : Nat), (enumF n l).length = l.length
  | [], _ => rfl
  | _ :: l, n => by simp [enumF, enumF_len l]
theorem zipF_get : ∀ (l m : List D) (i : Nat) (d : D), (zipF l m)[i]? = some d → ∃ c c', l[i]? = some c ∧ m[i]? = some c' ∧ d = .tup [c, c']
  | [], m, i, d, h => by cases m <;> simp [zipF] at h
  | c :: l, [], i, d, h => by simp [zipF] at h
  | c :: l, c' :: m, 0, d, h => by
    simp [zipF] at h
    exact ⟨c, c', rfl, rfl, h.symm⟩
  | c :: l, c' :: m, i + 1, d, h => by
    simp [zipF] at h
    obtain ⟨a, b, e1, e2, e3⟩ := zipF_get l m i d h
    exact ⟨a, b, by simpa using e1, by simpa using e2, e3⟩
theorem zipF_len : ∀ (l m : List D), (zipF l m).length = min l.length m.length
  | [], m => by cases m <;> simp [zipF]
  | _ :: _, [] => by simp [zipF]
  | _ :: l, _ :: m => by simp [zipF, zipF_len l m]
theorem pair_rp {Hb H : Hp} {T : Addr} {c c' : D} {x y : V} (ex : Ex Hb H) (hT : H T = none) (h1 : Rp g Hb c x) (h2 : Rp g Hb c' y) : Rp g (upd Hb T (.tup [x, y])) (.tup [c, c']) (.ref T) := by
  have hb := ex.back hT
  exact ⟨T, [x, y], rfl, .of upd_same, x, [y], rfl, Rp.mono (.new hb) _ _ h1, y, [], rfl, Rp.mono (.new hb) _ _ h2, rfl⟩
theorem jok_enumL (hK : X.K = g.K) {l : List D} {a : Addr} : JOk g [.lst l] [.ref a] (enumF 0 l) (Ite X.K a) where
  go := fun Hb H i d ex h hi => by
    obtain ⟨b, vs, e, h1, h2⟩ := h.of1
    cases e
    have hq : SqL X.K H a vs := by rw [hK]; exact h1
    obtain ⟨c, e0, rfl⟩ := enumF_get l 0 i d hi
    obtain ⟨v, e1, e2⟩ := h2.get e0
    refine ⟨⟨vs, v, hq, e1⟩, fun x H' ⟨T, y, ex', hT, hH, hy⟩ => .inr ⟨T, _, hT, hH, ?_⟩⟩
    have := hy vs hq
    rw [e1] at this; cases this
    rw [ex']
    exact pair_rp ex hT (by show V.int _ = V.int _; congr 1; omega) e2
  stop := fun Hb H i ex h hi => by
    obtain ⟨b, vs, e, h1, h2⟩ := h.of1
    cases e
    rw [enumF_len] at hi
    exact ⟨vs, by rw [hK]; exact h1, by rw [h2.length]; exact hi⟩
theorem jok_enumT (hK : X.K = g.K) {l : List D} {a : Addr} : JOk g [.tup l] [.ref a] (enumF 0 l) (Iet X.K a) where
  go := fun Hb H i d ex h hi => by
    obtain ⟨b, vs, e, h1, h2⟩ := h.of1
    cases e
    have hq : SqT X.K H a vs := by rw [hK]; exact ex.sqt h1
    obtain ⟨c, e0, rfl⟩ := enumF_get l 0 i d hi
    obtain ⟨v, e1, e2⟩ := h2.get e0
    refine ⟨⟨vs, v, hq, e1⟩, fun x H' ⟨T, y, ex', hT, hH, hy⟩ => .inr ⟨T, _, hT, hH, ?_⟩⟩
    have := hy vs hq
    rw [e1] at this; cases this
    rw [ex']
    exact pair_rp ex hT (by show V.int _ = V.int _; congr 1; omega) e2
  stop := fun Hb H i ex h hi => by
    obtain ⟨b, vs, e, h1, h2⟩ := h.of1
    cases e
    rw [enumF_len] at hi
    exact ⟨vs, by rw [hK]; exact ex.sqt h1, by rw [h2.length]; exact hi⟩
theorem jok_zipL (hK : X.K = g.K) {l m : List D} {a b : Addr} : JOk g [.lst l, .lst m] [.ref a, .ref b] (zipF l m) (Itz X.K a b) where
  go := fun Hb H i d ex h hi => by
    obtain ⟨⟨a', vs, e, h1, h2⟩, ⟨b', ws, e', h1', h2'⟩⟩ := h.of2
    cases e; cases e'
    have hq : SqL X.K H a vs := by rw [hK]; exact h1
    have hq' : SqL X.K H b ws := by rw [hK]; exact h1'
    obtain ⟨c, c', e0, e0', rfl⟩ := zipF_get l m i d hi
    obtain ⟨v, e1, e2⟩ := h2.get e0
    obtain ⟨v', e1', e2'⟩ := h2'.get e0'
    refine ⟨⟨vs, ws, v, v', hq, hq', e1, e1'⟩, fun x H' ⟨T, y, y', ex', hT, hH, hy, hy'⟩ => .inr ⟨T, _, hT, hH, ?_⟩⟩
    have := hy vs hq
    rw [e1] at this; cases this
    have := hy' ws hq'
    rw [e1'] at this; cases this
    rw [ex']
    exact pair_rp ex hT e2 e2'
  stop := fun Hb H i ex h hi => by
    obtain ⟨⟨a', vs, e, h1, h2⟩, ⟨b', ws, e', h1', h2'⟩⟩ := h.of2
    cases e; cases e'
    rw [zipF_len] at hi
    exact ⟨vs, ws, by rw [hK]; exact h1, by rw [hK]; exact h1', by rw [h2.length, h2'.length]; omega⟩
theorem jok_zipT (hK : X.K = g.K) {l m : List D} {a b : Addr} : JOk g [.tup l, .tup m] [.ref a, .ref b] (zipF l m) (RZ.ItzT X.K a b) where
  go := fun Hb H i d ex h hi => by
    obtain ⟨⟨a', vs, e, h1, h2⟩, ⟨b', ws, e', h1', h2'⟩⟩ := h.of2
    cases e; cases e'
    have hq : SqT X.K H a vs := by rw [hK]; exact ex.sqt h1
    have hq' : SqT X.K H b ws := by rw [hK]; exact ex.sqt h1'
    obtain ⟨c, c', e0, e0', rfl⟩ := zipF_get l m i d hi
    obtain ⟨v, e1, e2⟩ := h2.get e0
    obtain ⟨v', e1', e2'⟩ := h2'.get e0'
    refine ⟨⟨vs, ws, v, v', hq, hq', e1, e1'⟩, fun x H' ⟨T, y, y', ex', hT, hH, hy, hy'⟩ => .inr ⟨T, _, hT, hH, ?_⟩⟩
    have := hy vs hq
    rw [e1] at this; cases this
    have := hy' ws hq'
    rw [e1'] at this; cases this
    rw [ex']
    exact pair_rp ex hT e2 e2'
  stop := fun Hb H i ex h hi => by
    obtain ⟨⟨a', vs, e, h1, h2⟩, ⟨b', ws, e', h1', h2'⟩⟩ := h.of2
    cases e; cases e'
    rw [zipF_len] at hi
    exact ⟨vs, ws, by rw [hK]; exact ex.sqt h1, by rw [hK]; exact ex.sqt h1', by rw [h2.length, h2'.length]; omega⟩

/-! ### the iterables at hand -/
def tWI (X : Cx) (tg iter : Expr) : TI := fun σ H R => ∀ pins s, Inv X pins σ H s → wpAny (model X.prog X.w) X.A (eval iter X.env) (fun v s1 => wpAny (model X.prog X.w) X.A (pyIter v) (PIE X pins σ tg R) X.xe s1) X.xe s
theorem pi_W (X : Cx) (tg iter : Expr) : PI X tg iter (tWI X tg iter) := ⟨fun pins s σ H R I h => h pins s I⟩
theorem tWI_of {tg iter : Expr} {w : TI} (h : PI X tg iter w) {σ : L2.St} {H : Hp} {R : It → Hp → Prop} (q : w σ H R) : tWI X tg iter σ H R := fun pins s I => h.run pins s σ H R I q
/-- kept data, or what an own slot holds -/
def ItA (g : Gx) (Hb : Hp) (e : VE) (σ : L2.St) (v : Val) (d : D) (x : V) : Prop := Rp g Hb d x ∨ ∃ i b k c, v = .vw i ∧ e[i]? = some (.own b k c) ∧ d = c.toD ∧ σ[i]? = some (some x)
def ItAs (g : Gx) (Hb : Hp) (e : VE) (σ : L2.St) : List Val → List D → List V → Prop
  | [], ds, xs => ds = [] ∧ xs = []
  | v :: l, ds, xs => ∃ d ds' x xs', ds = d :: ds' ∧ xs = x :: xs' ∧ ItA g Hb e σ v d x ∧ ItAs g Hb e σ l ds' xs'
theorem itas_of {Hb H : Hp} {e : VE} {σ : L2.St} (I : VS g Hb e σ H) : ∀ {vs : List Val} {xs : List V} {ds : List D}, RKs g Hb e σ vs xs → rds e vs = some ds → ItAs g Hb e σ vs ds xs
  | [], _, _, h, k => by cases k; cases h; exact ⟨rfl, rfl⟩
  | v :: l, _, ds, h, k => by
    obtain ⟨x, r, rfl, h1, h2⟩ := h
    unfold rds at k
    cases q : rd e v with
    | none => rw [q] at k; cases k
    | some d =>
      rw [q] at k
      dsimp only [Option.bind] at k
      cases q2 : rds e l with
      | none => rw [q2] at k; cases k
      | some ds' =>
        rw [q2] at k
        cases k
        refine ⟨d, ds', x, r, rfl, rfl, ?_, itas_of I h2 q2⟩
        cases v with
        | p d' => cases q; exact .inl h1
        | fr c => cases q; exact .inl h1
        | vw i =>
          obtain ⟨e1, s, e2, n⟩ := h1
          have q' : (e[i]?).bind SS.rd = some d := q
          rw [e2] at q'
          cases s with
          | un => exact absurd rfl n
          | dat d' =>
            cases q'
            obtain ⟨y, z1, z2⟩ := I.dat i _ e2
            rw [e1] at z1; cases z1
            exact .inl z2
          | own b k c =>
            cases q'
            exact .inr ⟨i, b, k, c, rfl, e2, rfl, e1⟩
/-- what is walked -/
def ItP (g : Gx) (σ : L2.St) : Hp → Hp → Hp → VE → (List Val × List D) → It → Prop := fun _ Hb _ e p J => ∃ ds xs, ItAs g Hb e σ p.1 ds xs ∧ JOk g ds xs p.2 J
theorem early_I {σ : L2.St} : Early (ItP g σ) := fun _ _ _ _ _ _ _ _ r => r
def SI (g : Gx) (X : Cx) (W : WX) (tg iter : Expr) (m : VE → R (List Val × List D)) : Prop := ∀ e σ Hb H (Q : It → Hp → Prop), VS g Hb e σ H → CA (ItP g σ) g W σ Hb H e (m e) Q → tWI X tg iter σ H Q
/-- .. as it is used -/
theorem sa_its {es : List Expr} {ts : List T} {k : Ik} {e : VE} {σ : L2.St} {Hb H : Hp} {Q : It → Hp → Prop} {R : List V → Hp → Prop} (ha : SA g X W es (evs ce ts)) (I : VS g Hb e σ H)
    (h : CA (ItP g σ) g W σ Hb H e ((evs ce ts e).bind (itsOf k)) Q)
    (hR : ∀ vs e1 ds its xs Hb1 H1, evs ce ts e = .ok vs e1 → rds e1 vs = some ds → itOf k ds = some its → Ex Hb1 H1 → RRs g Hb1 H1 ds xs → (∀ J, JOk g ds xs its J → Q J H1) → R xs H1) : tWA X es σ H R := by
  refine ha e σ Hb H _ I ?_
  cases q1 : evs ce ts e with
  | no => rw [q1] at h; exact h
  | rz xd e1 => rw [q1] at h; exact h
  | ok vs e1 =>
    rw [q1] at h
    intro xs Hb1 H1 p1 r1
    have h1 : CA (ItP g σ) g W σ Hb H e (itsOf k vs e1) Q := h
    unfold itsOf at h1
    cases q2 : rds e1 vs with
    | none => rw [q2] at h1; exact h1.elim
    | some ds =>
      rw [q2] at h1
      dsimp only [Option.bind] at h1
      cases q3 : itOf k ds with
      | none => rw [q3] at h1; exact h1.elim
      | some its =>
        rw [q3] at h1
        obtain ⟨Hb2, p2, b2, k2⟩ := RVs.keep p1 r1
        exact hR vs e1 ds its xs Hb1 H1 q1 q2 q3 p1.st.ex (r1.reads p1.st q2) fun J hJ => h1 J Hb2 H1 p2 ⟨ds, xs, itas_of p2.st k2 q2, hJ⟩
theorem si_seq {a tg : Expr} {ta : T} (G : Good g kk X W) (ha : SE g X W a (ev ce ta)) : SI g X W tg a (fun e => (evs ce [ta] e).bind (itsOf .seq)) := by
  intro e σ Hb H Q I h
  -- the value is known ahead
  have ha' : ∀ (Q' : VK), CA (PV g σ) g W σ Hb H e (ev ce ta e) Q' → tW X a σ H Q' := fun Q' => ha e σ Hb H Q' I
  simp only [evs] at h
  cases q1 : ev ce ta e with
  | no => rw [q1] at h ha'; exact h.elim
  | rz xd e1 =>
    rw [q1] at h ha'
    have h' : CA (ItP g σ) g W σ Hb H e (R.rz xd e1) Q := h
    exact tWI_of (pi_list (pe_W X a)) (ha' _ h')
  | ok v1 e1 =>
    rw [q1] at h ha'
    have h1 : CA (ItP g σ) g W σ Hb H e (itsOf .seq [v1] e1) Q := h
    unfold itsOf at h1
    cases q2 : rds e1 [v1] with
    | none => rw [q2] at h1; exact h1.elim
    | some ds =>
      rw [q2] at h1
      dsimp only [Option.bind] at h1
      have q2' := q2
      unfold rds at q2'
      cases q4 : rd e1 v1 with
      | none => rw [q4] at q2'; cases q2'
      | some d =>
        rw [q4] at q2'
        cases q2'
        have fin : ∀ x1 Hb1 H1 its, itOf .seq [d] = some its → PK g σ Hb H e Hb1 H1 e1 → RV g H Hb1 H1 e1 σ v1 x1 → RR g Hb1 H1 d x1 ∧ ∀ J, JOk g [d] [x1] its J → Q J H1 := by
          intro x1 Hb1 H1 its q3 p1 r1
          rw [q3] at h1
          obtain ⟨Hb2, p2, b2, k2⟩ := RVs.keep (vs := [v1]) (xs := [x1]) p1 ⟨x1, [], rfl, r1, rfl, fun _ _ j c' z => by simp at z⟩
          exact ⟨r1.read p1.st q4, fun J hJ => h1 J Hb2 H1 p2 ⟨[d], [x1], itas_of p2.st k2 q2, hJ⟩⟩
        cases d with
        | lst l =>
          refine tWI_of (pi_list (pe_W X a)) (ha' _ fun x1 Hb1 H1 p1 r1 => ?_)
          obtain ⟨⟨b, vs, rfl, z1, z2⟩, k⟩ := fin x1 Hb1 H1 l rfl p1 r1
          exact ⟨b, rfl, ⟨vs, by rw [G.hK]; exact z1⟩, k _ (jok_list G.hK)⟩
        | tup l =>
          refine tWI_of (pi_tup (pe_W X a)) (ha' _ fun x1 Hb1 H1 p1 r1 => ?_)
          obtain ⟨⟨b, vs, rfl, z1, z2⟩, k⟩ := fin x1 Hb1 H1 l rfl p1 r1
          exact ⟨b, rfl, ⟨vs, by rw [G.hK]; exact p1.st.ex.sqt z1⟩, k _ (jok_tup G.hK)⟩
        | str l =>
          refine tWI_of (pi_str (pe_W X a)) (ha' _ fun x1 Hb1 H1 p1 r1 => ?_)
          obtain ⟨z, k⟩ := fin x1 Hb1 H1 (l.map fun c => .str [c]) rfl p1 r1
          exact ⟨sT l, z.1, k _ jok_str⟩
        | _ => exact h1.elim
/-- the items are known ahead -/
theorem its_ahead {ts : List T} {k : Ik} {e : VE} {σ : L2.St} {Hb H : Hp} {Q : It → Hp → Prop} (h : CA (ItP g σ) g W σ Hb H e ((evs ce ts e).bind (itsOf k)) Q) :
    (∃ xd e1, evs ce ts e = .rz xd e1) ∨ ∃ vs e1 ds its, evs ce ts e = .ok vs e1 ∧ rds e1 vs = some ds ∧ itOf k ds = some its := by
  cases q1 : evs ce ts e with
  | no => rw [q1] at h; exact h.elim
  | rz xd e1 => exact .inl ⟨xd, e1, rfl⟩
  | ok vs e1 =>
    rw [q1] at h
    have h1 : CA (ItP g σ) g W σ Hb H e (itsOf k vs e1) Q := h
    unfold itsOf at h1
    cases q2 : rds e1 vs with
    | none => rw [q2] at h1; exact h1.elim
    | some ds =>
      rw [q2] at h1
      dsimp only [Option.bind] at h1
      cases q3 : itOf k ds with
      | none => rw [q3] at h1; exact h1.elim
      | some its => exact .inr ⟨vs, e1, ds, its, rfl, q2, q3⟩
theorem its_same {vs vs' : List Val} {e1 e1' : VE} {ds ds' : List D} {ts : List T} {e : VE} (q1 : evs ce ts e = .ok vs e1) (q2 : rds e1 vs = some ds) (r1 : evs ce ts e = .ok vs' e1') (r2 : rds e1' vs' = some ds') : ds' = ds := by
  rw [q1] at r1; cases r1
  rw [q2] at r2; cases r2
  rfl
theorem si_rng1 {a tg : Expr} {ta : T} {p pos : Pos} (G : Good g kk X W) (hg : Gl X "range") (hm : X.mg "range" = none) (hs : noStar a = true) (ha : SA g X W [a] (evs ce [ta])) : SI g X W tg (.Call (.Name "range" p) [a] [] pos) (fun e => (evs ce [ta] e).bind (itsOf .rng)) := by
  intro e σ Hb H Q I h
  refine tWI_of (pi_range1 hg hm (pa_W X [a]) (star1 hs [] X.env)) (sa_its ha I h fun vs e1 ds its xs Hb1 H1 q1 q2 q3 ex rr k => ?_)
  have hl : ds.length = 1 := by
    have h1 := evs_len q1
    have : ∀ {vs : List Val} {ds : List D}, rds e1 vs = some ds → ds.length = vs.length := by
      intro vs
      induction vs with
      | nil => intro ds h; cases h; rfl
      | cons v l ih =>
        intro ds h
        unfold rds at h
        cases q : rd e1 v with
        | none => rw [q] at h; cases h
        | some d =>
          rw [q] at h
          dsimp only [Option.bind] at h
          cases q' : rds e1 l with
          | none => rw [q'] at h; cases h
          | some r => rw [q'] at h; cases h; simp [ih q']
    rw [this q2, h1]; rfl
  match ds, hl with
  | [d], _ =>
    obtain ⟨x, rfl, r⟩ := rr.one
    cases d <;> first | (cases q3; done) | skip
    rename_i n _
    have q3' : rngOf [.int n] = some its := q3
    unfold rngOf at q3'
    dsimp only at q3'
    split at q3'
    · rename_i hn
      cases q3'
      cases r
      unfold line at hn
      exact ⟨n, rfl, by omega, by omega, k _ jok_rng1⟩
    · cases q3'
theorem rds_len {e1 : VE} : ∀ {vs : List Val} {ds : List D}, rds e1 vs = some ds → ds.length = vs.length
  | [], ds, h => by cases h; rfl
  | v :: l, ds, h => by
    unfold rds at h
    cases q : rd e1 v with
    | none => rw [q] at h; cases h
    | some d =>
      rw [q] at h
      dsimp only [Option.bind] at h
      cases q' : rds e1 l with
      | none => rw [q'] at h; cases h
      | some r => rw [q'] at h; cases h; simp [rds_len q']
theorem si_rng2 {a b tg : Expr} {ta tb : T} {p pos : Pos} (G : Good g kk X W) (hg : Gl X "range") (hm : X.mg "range" = none) (hs : noStar a = true) (hs2 : noStar b = true) (ha : SA g X W [a, b] (evs ce [ta, tb])) :
    SI g X W tg (.Call (.Name "range" p) [a, b] [] pos) (fun e => (evs ce [ta, tb] e).bind (itsOf .rng)) := by
  intro e σ Hb H Q I h
  have h1 := star1 hs [b] X.env
  have h2 := star1 hs2 [] X.env
  refine tWI_of (pi_range2 hg hm (pa_W X [a, b]) (by rw [h1, h2]; rfl) h2) (sa_its ha I h fun vs e1 ds its xs Hb1 H1 q1 q2 q3 ex rr k => ?_)
  have hl : ds.length = 2 := by rw [rds_len q2, evs_len q1]; rfl
  match ds, hl with
  | [d, d'], _ =>
    obtain ⟨x, y, rfl, r, r'⟩ := rr.two
    cases d <;> first | (cases q3; done) | skip
    cases d' <;> first | (cases q3; done) | skip
    rename_i n m _
    have q3' : rngOf [.int n, .int m] = some its := q3
    unfold rngOf at q3'
    dsimp only at q3'
    split at q3'
    · rename_i hn
      cases q3'
      cases r
      cases r'
      exact ⟨n, m, rfl, ⟨by omega, by omega, by omega, by omega⟩, k _ jok_rng2⟩
    · cases q3'
theorem si_enum {a : Expr} {ta : T} {p pos tpos : Pos} {elts : List Expr} {n : Nat} (G : Good g kk X W) (hg : Gl X "enumerate") (hm : X.mg "enumerate" = none) (hs : noStar a = true) (ha : SA g X W [a] (evs ce [ta])) :
    SI g X W (.Tuple elts n tpos) (.Call (.Name "enumerate" p) [a] [] pos) (fun e => (evs ce [ta] e).bind (itsOf .enum)) := by
  intro e σ Hb H Q I h
  have h0 := star1 hs [] X.env
  rcases its_ahead h with ⟨xd, e1, q⟩ | ⟨vs, e1, ds, its, q1, q2, q3⟩
  · exact tWI_of (pi_enum hg hm (pa_W X [a]) h0) (sa_its ha I h fun vs e1 ds its xs Hb1 H1 q1 => by rw [q] at q1; cases q1)
  · match ds, q3 with
    | [.lst l], q3 =>
      refine tWI_of (pi_enum hg hm (pa_W X [a]) h0) (sa_its ha I h fun vs' e1' ds' its' xs Hb1 H1 z1 z2 z3 ex rr k => ?_)
      have := its_same q1 q2 z1 z2
      subst this
      cases z3
      obtain ⟨x, rfl, r⟩ := rr.one
      obtain ⟨ad, ws, rfl, y1, y2⟩ := r
      exact ⟨ad, ws, rfl, by rw [G.hK]; exact y1, k _ (jok_enumL G.hK)⟩
    | [.tup l], q3 =>
      refine tWI_of (pi_enumT hg hm (pa_W X [a]) h0) (sa_its ha I h fun vs' e1' ds' its' xs Hb1 H1 z1 z2 z3 ex rr k => ?_)
      have := its_same q1 q2 z1 z2
      subst this
      cases z3
      obtain ⟨x, rfl, r⟩ := rr.one
      obtain ⟨ad, ws, rfl, y1, y2⟩ := r
      exact ⟨ad, ws, rfl, by rw [G.hK]; exact ex.sqt y1, k _ (jok_enumT G.hK)⟩
theorem si_zip {a b : Expr} {ta tb : T} {p pos tpos : Pos} {elts : List Expr} {n : Nat} (G : Good g kk X W) (hg : Gl X "zip") (hm : X.mg "zip" = none) (hs : noStar a = true) (hs2 : noStar b = true) (ha : SA g X W [a, b] (evs ce [ta, tb])) :
    SI g X W (.Tuple elts n tpos) (.Call (.Name "zip" p) [a, b] [] pos) (fun e => (evs ce [ta, tb] e).bind (itsOf .zip)) := by
  intro e σ Hb H Q I h
  have h1 := star1 hs [b] X.env
  have h2 := plain_es (env := X.env) (pos := pos) (es := [b]) (by simpa using hs2)
  refine tWI_of (RZ.pi_zipA hg hm (pa_W X [a, b]) h1 h2) (sa_its ha I h fun vs' e1' ds' its' xs Hb1 H1 z1 z2 z3 ex rr k => ?_)
  have hl : ds'.length = 2 := by rw [rds_len z2, evs_len z1]; rfl
  match ds', hl, z3 with
  | [.lst l, .lst m], _, z3 =>
    cases z3
    obtain ⟨x, y, rfl, r, r'⟩ := rr.two
    obtain ⟨ad, ws, rfl, y1, y2⟩ := r
    obtain ⟨ad', ws', rfl, y1', y2'⟩ := r'
    have hq : SqL X.K H1 ad ws := by rw [G.hK]; exact y1
    have hq' : SqL X.K H1 ad' ws' := by rw [G.hK]; exact y1'
    exact ⟨ad, ad', ws, ws', rfl, .inl ⟨hq, hq', k _ (jok_zipL G.hK)⟩⟩
  | [.tup l, .tup m], _, z3 =>
    cases z3
    obtain ⟨x, y, rfl, r, r'⟩ := rr.two
    obtain ⟨ad, ws, rfl, y1, y2⟩ := r
    obtain ⟨ad', ws', rfl, y1', y2'⟩ := r'
    have hq : SqT X.K H1 ad ws := by rw [G.hK]; exact ex.sqt y1
    have hq' : SqT X.K H1 ad' ws' := by rw [G.hK]; exact ex.sqt y1'
    exact ⟨ad, ad', ws, ws', rfl, .inr ⟨hq, hq', k _ (jok_zipT G.hK)⟩⟩
end
end Vd
/-! Vd14: steps of statements. -/
namespace Vd
open PySem PySem.Spec PyProof.Rows L2
/-- what a statement keeps of the frame: lent and locked objects stay where they are -/
structure EKS (e : VE) (σ : L2.St) (e' : VE) (σ' : L2.St) : Prop where
  len : e'.length = e.length
  slen : σ'.length = σ.length
  at' : ∀ (i : Nat) (b k : Bool) (c : OC), e[i]? = some (.own b k c) → (b = true ∨ k = true) → ∃ c', e'[i]? = some (.own b k c') ∧ σ'[i]? = σ[i]? ∧ (k = true → c' = c)
theorem EKS.refl (e : VE) (σ : L2.St) : EKS e σ e σ := ⟨rfl, rfl, fun i b k c h _ => ⟨c, h, rfl, fun _ => rfl⟩⟩
theorem EKS.trans {e e1 e2 : VE} {σ σ1 σ2 : L2.St} (p : EKS e σ e1 σ1) (q : EKS e1 σ1 e2 σ2) : EKS e σ e2 σ2 := ⟨q.len.trans p.len, q.slen.trans p.slen, fun i b k c h w => by
  obtain ⟨c1, h1, s1, k1⟩ := p.at' i b k c h w
  obtain ⟨c2, h2, s2, k2⟩ := q.at' i b k c1 h1 w
  exact ⟨c2, h2, s2.trans s1, fun z => (k2 z).trans (k1 z)⟩⟩
theorem EKS.ofK {e e' : VE} (σ : L2.St) (p : EK e e') : EKS e σ e' σ := ⟨p.len, rfl, fun i b k c h w => by
  obtain ⟨s', h', r⟩ := p.at' i _ h
  cases r with
  | same => exact ⟨c, h', rfl, fun _ => rfl⟩
  | turn b c c' => exact ⟨c', h', rfl, fun z => by cases z⟩
  | frz c d => rcases w with w | w <;> cases w⟩
structure SK (g : Gx) (σ : L2.St) (Hb H : Hp) (e : VE) (σ' : L2.St) (Hb' H' : Hp) (e' : VE) : Prop where
  vp : VP (Ow g e σ) Hb H (Ow g e' σ') Hb' H'
  st : VS g Hb' e' σ' H'
  ek : EKS e σ e' σ'
theorem SK.refl {g : Gx} {σ : L2.St} {Hb H : Hp} {e : VE} (I : VS g Hb e σ H) : SK g σ Hb H e σ Hb H e := ⟨.refl, I, .refl e σ⟩
theorem SK.trans {g : Gx} {σ σ1 σ2 : L2.St} {Hb H Hb1 H1 Hb2 H2 : Hp} {e e1 e2 : VE} (p : SK g σ Hb H e σ1 Hb1 H1 e1) (q : SK g σ1 Hb1 H1 e1 σ2 Hb2 H2 e2) : SK g σ Hb H e σ2 Hb2 H2 e2 := ⟨p.vp.trans q.vp, q.st, p.ek.trans q.ek⟩
theorem PK.sk {g : Gx} {σ : L2.St} {Hb H Hb1 H1 : Hp} {e e1 : VE} (p : PK g σ Hb H e Hb1 H1 e1) : SK g σ Hb H e σ Hb1 H1 e1 := ⟨p.vp, p.st, .ofK σ p.ek⟩
/-- what is returned -/
def RVt (g : Gx) (σ0 : L2.St) (H0 : Hp) (e0 : VE) (Hb H : Hp) (e : VE) (σ : L2.St) : Ret → V → Prop
  | .p d, x => Rp g Hb d x
  | .fr c, x => ∃ a, x = .ref a ∧ (H0 a = none ∨ Ow g e0 σ0 a) ∧ Hb a = none ∧ RO g Hb H c a ∧ ¬ Ow g e σ a
theorem RVt.early {g : Gx} {σ0 σ1 σ : L2.St} {Hb0 H0 Hb1 H1 Hb H : Hp} {e0 e1 e : VE} {r : Ret} {x : V} (p : SK g σ0 Hb0 H0 e0 σ1 Hb1 H1 e1) (h : RVt g σ1 H1 e1 Hb H e σ r x) : RVt g σ0 H0 e0 Hb H e σ r x := by
  cases r with
  | p d => exact h
  | fr c =>
    obtain ⟨a, rfl, h0, h1⟩ := h
    refine ⟨a, rfl, ?_, h1⟩
    rcases h0 with h0 | h0
    · exact .inl (p.vp.t a h0)
    · rcases p.vp.s a h0 with z | z
      · exact .inr z
      · exact .inl z
/-- an outcome, told -/
def CO (g : Gx) (W : WX) (D : Ends) (σ : L2.St) (Hb H : Hp) (e : VE) (o : Out) : Prop :=
  match o with
  | .nx e' => ∀ σ' Hb' H', SK g σ Hb H e σ' Hb' H' e' → D.nx σ' H'
  | .bk e' => ∀ σ' Hb' H', SK g σ Hb H e σ' Hb' H' e' → D.bk σ' H'
  | .ct e' => ∀ σ' Hb' H', SK g σ Hb H e σ' Hb' H' e' → D.ct σ' H'
  | .rt r e' => ∀ x σ' Hb' H', SK g σ Hb H e σ' Hb' H' e' → RVt g σ H e Hb' H' e' σ' r x → D.rt x H'
  | .rz xd e' => ∀ cls d σ' Hb' H', SK g σ Hb H e σ' Hb' H' e' → RX g Hb' H' xd cls d → W cls d σ' H'
  | .no => False
section
variable {g : Gx} {kk : Nat} {X : Cx} {W : WX} {ce : CE} {Dn : Ends} {σ σ1 : L2.St} {Hb H Hb1 H1 : Hp} {e e1 : VE}
theorem CO.shift {o : Out} (p : SK g σ Hb H e σ1 Hb1 H1 e1) (h : CO g W Dn σ Hb H e o) : CO g W Dn σ1 Hb1 H1 e1 o := by
  cases o with
  | nx e' => exact fun σ' Hb' H' q => h σ' Hb' H' (p.trans q)
  | bk e' => exact fun σ' Hb' H' q => h σ' Hb' H' (p.trans q)
  | ct e' => exact fun σ' Hb' H' q => h σ' Hb' H' (p.trans q)
  | rt r e' => exact fun x σ' Hb' H' q rv => h x σ' Hb' H' (p.trans q) (rv.early p)
  | rz xd e' => exact fun cls d σ' Hb' H' q rx => h cls d σ' Hb' H' (p.trans q) rx
  | no => exact h
theorem CO.out {α β : Type} {P : Hp → Hp → Hp → VE → α → β → Prop} {r : R α} {f : α → VE → Out} {Q' : β → Hp → Prop} (h : CO g W Dn σ Hb H e (r.out f))
    (k : ∀ v e1 x Hb1 H1, PK g σ Hb H e Hb1 H1 e1 → P H Hb1 H1 e1 v x → CO g W Dn σ Hb1 H1 e1 (f v e1) → Q' x H1) : CA P g W σ Hb H e r Q' := by
  cases r with
  | ok v e1 => exact fun x Hb1 H1 pk rv => k v e1 x Hb1 H1 pk rv (CO.shift pk.sk h)
  | rz xd e' => exact fun cls d Hb' H' pk rx => h cls d σ Hb' H' pk.sk rx
  | no => exact h
theorem CO.ofO {α : Type} {o : Option α} {f : α → VE → Out} (h : CO g W Dn σ Hb H e ((Vd.ofO o e).out f)) : ∃ a, o = some a ∧ CO g W Dn σ Hb H e (f a e) := by
  cases o with
  | none => exact h.elim
  | some a => exact ⟨a, rfl, h⟩
theorem CO.ofX {o : Option VE} (h : CO g W Dn σ Hb H e (Vd.ofX o)) : ∃ e', o = some e' ∧ ∀ σ' Hb' H', SK g σ Hb H e σ' Hb' H' e' → Dn.nx σ' H' := by
  cases o with
  | none => exact h.elim
  | some a => exact ⟨a, rfl, h⟩
/-- a slot may be stored to -/
theorem putS_some {i : Nat} {s : SS} {e' : VE} (h : putS i s e = some e') : i < e.length ∧ e' = e.set i s ∧ ∀ b k c, e[i]? = some (.own b k c) → b = false ∧ k = false := by
  unfold putS at h
  split at h
  · rename_i hf
    cases h
    cases q : e[i]? with
    | none => rw [q] at hf; cases hf
    | some u =>
      rw [q] at hf
      refine ⟨(List.getElem?_eq_some_iff.mp q).1, rfl, fun b k c z => ?_⟩
      cases z
      cases b <;> cases k <;> first | (cases hf; done) | exact ⟨rfl, rfl⟩
  · cases h
theorem EKS.put (I : e.length = σ.length) {i : Nat} {s : SS} {x : V} (hn : ∀ b k c, e[i]? = some (.own b k c) → b = false ∧ k = false) : EKS e σ (e.set i s) (σ.set i (some x)) := ⟨by simp, by simp, fun j b k c h w => by
  have ne : i ≠ j := fun z => by
    subst z
    obtain ⟨rfl, rfl⟩ := hn b k c h
    rcases w with w | w <;> cases w
  exact ⟨c, by rw [List.getElem?_set_ne ne]; exact h, by rw [List.getElem?_set_ne ne], fun _ => rfl⟩⟩
theorem SK.putP (I : VS g Hb e σ H) {i : Nat} {d : D} {x : V} {e' : VE} (h : putS i (.dat d) e = some e') (r : Rp g Hb d x) : SK g σ Hb H e (σ.set i (some x)) Hb H e' := by
  obtain ⟨hi, rfl, hn⟩ := putS_some h
  have hσ : i < σ.length := by rw [← I.len]; exact hi
  have oth : ∀ (j : Nat) b k c, (e.set i (.dat d))[j]? = some (SS.own b k c) → i ≠ j ∧ e[j]? = some (.own b k c) := fun j b k c q => by
    by_cases z : i = j
    · subst z
      rw [List.getElem?_set_self hi] at q
      cases q
    · rw [List.getElem?_set_ne z] at q
      exact ⟨z, q⟩
  have ow : ∀ a, Ow g (e.set i (.dat d)) (σ.set i (some x)) a → Ow g e σ a := fun a z => by
    rcases z with z | ⟨j, b, k, c, z1, z2⟩
    · exact .inl z
    · obtain ⟨ne, q⟩ := oth j b k c z1
      rw [List.getElem?_set_ne ne] at z2
      exact .inr ⟨j, b, k, c, q, z2⟩
  refine ⟨⟨.refl _, fun _ _ q _ => q, fun _ _ q => .inl q, fun a z => .inl (ow a z), fun _ q => q⟩, ⟨by simp [I.len], I.ex, fun j d' q => ?_, fun j b k c q => ?_, fun j l b k c b' k' c' a q1 q2 s1 s2 => ?_, I.tok, I.tbn⟩, .put I.len hn⟩
  · by_cases z : i = j
    · subst z
      rw [List.getElem?_set_self hi] at q
      cases q
      exact ⟨x, List.getElem?_set_self hσ, r⟩
    · rw [List.getElem?_set_ne z] at q
      obtain ⟨v, e1, e2⟩ := I.dat j d' q
      exact ⟨v, by rw [List.getElem?_set_ne z]; exact e1, e2⟩
  · obtain ⟨ne, q⟩ := oth j b k c q
    obtain ⟨a, e1, e2⟩ := I.own j b k c q
    exact ⟨a, by rw [List.getElem?_set_ne ne]; exact e1, e2⟩
  · obtain ⟨n1, q1⟩ := oth j b k c q1
    obtain ⟨n2, q2⟩ := oth l b' k' c' q2
    rw [List.getElem?_set_ne n1] at s1
    rw [List.getElem?_set_ne n2] at s2
    exact I.inj j l b k c b' k' c' a q1 q2 s1 s2
/-- a new object gets a name -/
theorem SK.putF {σ0 : L2.St} {Hb0 H0 : Hp} {e0 : VE} (p : SK g σ0 Hb0 H0 e0 σ Hb H e) {i : Nat} {c : OC} {a : Addr} {e' : VE} (h : putS i (.own false false c) e = some e') (h0 : H0 a = none) (hb : Hb a = none) (ro : RO g Hb H c a) (no : ¬ Ow g e σ a) :
    SK g σ0 Hb0 H0 e0 (σ.set i (some (.ref a))) Hb H e' := by
  have I := p.st
  obtain ⟨hi, rfl, hn⟩ := putS_some h
  have hσ : i < σ.length := by rw [← I.len]; exact hi
  have oth : ∀ (j : Nat) b k c', (e.set i (.own false false c))[j]? = some (SS.own b k c') → (i = j ∧ b = false ∧ k = false ∧ c' = c) ∨ (i ≠ j ∧ e[j]? = some (.own b k c')) := fun j b k c' q => by
    by_cases z : i = j
    · subst z
      rw [List.getElem?_set_self hi] at q
      cases q
      exact .inl ⟨rfl, rfl, rfl, rfl⟩
    · rw [List.getElem?_set_ne z] at q
      exact .inr ⟨z, q⟩
  have ow : ∀ b, Ow g (e.set i (.own false false c)) (σ.set i (some (.ref a))) b → b = a ∨ Ow g e σ b := fun b z => by
    rcases z with z | ⟨j, b', k, c', z1, z2⟩
    · exact .inr (.inl z)
    · rcases oth j b' k c' z1 with ⟨rfl, _, _, _⟩ | ⟨ne, q⟩
      · rw [List.getElem?_set_self hσ] at z2
        cases z2; exact .inl rfl
      · rw [List.getElem?_set_ne ne] at z2
        exact .inr (.inr ⟨j, b', k, c', q, z2⟩)
  refine ⟨⟨p.vp.b, p.vp.k, p.vp.n, fun b z => ?_, p.vp.t⟩, ⟨by simp [I.len], I.ex, fun j d' q => ?_, fun j b k c' q => ?_, fun j l b k c1 b' k' c2 a' q1 q2 s1 s2 => ?_, I.tok, I.tbn⟩, p.ek.trans (.put I.len hn)⟩
  · rcases ow b z with rfl | z
    · exact .inr h0
    · exact p.vp.s b z
  · by_cases z : i = j
    · subst z
      rw [List.getElem?_set_self hi] at q
      cases q
    · rw [List.getElem?_set_ne z] at q
      obtain ⟨v, e1, e2⟩ := I.dat j d' q
      exact ⟨v, by rw [List.getElem?_set_ne z]; exact e1, e2⟩
  · rcases oth j b k c' q with ⟨rfl, rfl, rfl, rfl⟩ | ⟨ne, q⟩
    · exact ⟨a, List.getElem?_set_self hσ, hb, ro⟩
    · obtain ⟨a', e1, e2⟩ := I.own j b k c' q
      exact ⟨a', by rw [List.getElem?_set_ne ne]; exact e1, e2⟩
  · rcases oth j b k c1 q1 with ⟨rfl, rfl, rfl, rfl⟩ | ⟨n1, q1⟩
    · rcases oth l b' k' c2 q2 with ⟨rfl, _, _, _⟩ | ⟨n2, q2⟩
      · rfl
      · rw [List.getElem?_set_self hσ] at s1
        cases s1
        rw [List.getElem?_set_ne n2] at s2
        exact absurd (.inr ⟨l, b', k', c2, q2, s2⟩) no
    · rcases oth l b' k' c2 q2 with ⟨rfl, _, _, _⟩ | ⟨n2, q2⟩
      · rw [List.getElem?_set_self hσ] at s2
        cases s2
        rw [List.getElem?_set_ne n1] at s1
        exact absurd (.inr ⟨j, b, k, c1, q1, s1⟩) no
      · rw [List.getElem?_set_ne n1] at s1
        rw [List.getElem?_set_ne n2] at s2
        exact I.inj j l b k c1 b' k' c2 a' q1 q2 s1 s2
/-- a value gets a name -/
theorem SK.setV {v : Val} {x : V} {i : Nat} {e' : VE} (p : PK g σ Hb H e Hb1 H1 e1) (r : RV g H Hb1 H1 e1 σ v x) (h : Vd.setV i v e1 = some e') : ∃ Hb2, SK g σ Hb H e (σ.set i (some x)) Hb2 H1 e' := by
  cases v with
  | p d => exact ⟨Hb1, p.sk.trans (.putP p.st h r)⟩
  | fr c =>
    obtain ⟨a, rfl, h0, hb, ro, no⟩ := r
    exact ⟨Hb1, SK.putF p.sk h h0 hb ro no⟩
  | vw j =>
    unfold Vd.setV at h
    dsimp only at h
    cases q : fz e1 (.vw j) with
    | none => rw [q] at h; cases h
    | some pr =>
      obtain ⟨d, e2⟩ := pr
      rw [q] at h
      obtain ⟨Hb2, p2, b2, _, s2⟩ := fz_ok p (v := .vw j) (x := x) r q
      exact ⟨Hb2, p2.sk.trans (.putP p2.st h s2)⟩

/-! ### statements -/
def tWS (X : Cx) (x : Stmt) : TS := fun D σ H => ∀ pins s, Inv X pins σ H s → wpAny (model X.prog X.w) X.A (exec x X.env) (SP X pins D) X.xe s
theorem ps_W (X : Cx) (x : Stmt) : L2.PS X x (tWS X x) := ⟨fun pins s σ H D I h => h pins s I⟩
theorem tWS_of {x : Stmt} {t : TS} (h : L2.PS X x t) {D : Ends} {σ : L2.St} {H : Hp} (q : t D σ H) : tWS X x D σ H := fun pins s I => h.run pins s σ H D I q
def tWSs (X : Cx) (x : List Stmt) : TS := fun D σ H => ∀ pins s, Inv X pins σ H s → wpAny (model X.prog X.w) X.A (execs x X.env) (SP X pins D) X.xe s
theorem pss_W (X : Cx) (x : List Stmt) : PSs X x (tWSs X x) := ⟨fun pins s σ H D I h => h pins s I⟩
theorem tWSs_of {x : List Stmt} {t : TS} (h : PSs X x t) {D : Ends} {σ : L2.St} {H : Hp} (q : t D σ H) : tWSs X x D σ H := fun pins s I => h.run pins s σ H D I q
def SS1 (g : Gx) (X : Cx) (W : WX) (x : Stmt) (m : VE → Out) : Prop := ∀ e σ Hb H D, VS g Hb e σ H → CO g W D σ Hb H e (m e) → tWS X x D σ H
def SSs (g : Gx) (X : Cx) (W : WX) (x : List Stmt) (m : VE → Out) : Prop := ∀ e σ Hb H D, VS g Hb e σ H → CO g W D σ Hb H e (m e) → tWSs X x D σ H
theorem ss_nil : SSs g X W [] (exs ce []) := by
  intro e σ Hb H D I h
  rw [exs] at h
  exact tWSs_of pss_nil (h σ Hb H (.refl I))
theorem ss_cons {x : Stmt} {l : List Stmt} {s : S} {ss : List S} (h1 : SS1 g X W x (ex ce s)) (h2 : SSs g X W l (exs ce ss)) : SSs g X W (x :: l) (exs ce (s :: ss)) := by
  intro e σ Hb H D I h
  rw [exs] at h
  refine tWSs_of (pss_cons (ps_W X x) (pss_W X l)) ?_
  refine h1 e σ Hb H _ I ?_
  cases q : ex ce s e with
  | nx e1 =>
    rw [q] at h
    exact fun σ' Hb' H' sk => h2 e1 σ' Hb' H' D sk.st (CO.shift sk h)
  | bk e1 => rw [q] at h; exact h
  | ct e1 => rw [q] at h; exact h
  | rt r e1 => rw [q] at h; exact h
  | rz xd e1 => rw [q] at h; exact h
  | no => rw [q] at h; exact h
theorem ss_one {x : Stmt} {s : S} (h1 : SS1 g X W x (ex ce s)) : SSs g X W [x] (exs ce [s]) := ss_cons h1 ss_nil
theorem ss_pass {pos : Pos} : SS1 g X W (.Pass pos) (ex ce .pas) := by
  intro e σ Hb H D I h
  rw [ex] at h
  exact tWS_of ps_pass (h σ Hb H (.refl I))
theorem ss_brk {pos : Pos} : SS1 g X W (.Break pos) (ex ce .brk) := by
  intro e σ Hb H D I h
  rw [ex] at h
  exact tWS_of ps_break (h σ Hb H (.refl I))
theorem ss_cnt {pos : Pos} : SS1 g X W (.Continue pos) (ex ce .cnt) := by
  intro e σ Hb H D I h
  rw [ex] at h
  exact tWS_of ps_continue (h σ Hb H (.refl I))
theorem ss_bad {x : Stmt} : SS1 g X W x (ex ce .bad) := by
  intro e σ Hb H D I h
  rw [ex] at h
  exact h.elim
theorem ss_exp {a : Expr} {ta : T} {pos : Pos} (ha : SE g X W a (ev ce ta)) (hs : swapsWith a none pos.line X.env = pure false) : SS1 g X W (.Expr a pos) (ex ce (.exp ta)) := by
  intro e σ Hb H D I h
  rw [ex] at h
  refine tWS_of (ps_expr (pe_W X a) hs) ?_
  exact ha e σ Hb H _ I (CO.out (P := PV g σ) h fun v1 e1 x1 Hb1 H1 p1 r1 h1 => h1 σ Hb1 H1 (.refl p1.st))
theorem ss_retn {pos : Pos} : SS1 g X W (.Return none pos) (ex ce .retn) := by
  intro e σ Hb H D I h
  rw [ex] at h
  exact tWS_of ps_retN (h .non σ Hb H (.refl I) rfl)
theorem ss_ifs {c : Expr} {a b : List Stmt} {tc : T} {ta tb : List S} {pos : Pos} (hc : ST g X W c (evT ce tc)) (ha : SSs g X W a (exs ce ta)) (hb : SSs g X W b (exs ce tb)) : SS1 g X W (.If c a b pos) (ex ce (.ifs tc ta tb)) := by
  intro e σ Hb H D I h
  rw [ex] at h
  refine tWS_of (ps_if (pt_W X c) (pss_W X a) (pss_W X b)) ?_
  refine hc e σ Hb H _ I (CO.out (P := PQ) h fun t e1 x1 Hb1 H1 p1 r1 h1 => ?_)
  subst r1
  cases x1 with
  | true => exact ha e1 σ Hb1 H1 D p1.st h1
  | false => exact hb e1 σ Hb1 H1 D p1.st h1
/-- the returned object leaves the frame -/
theorem SK.unset {i : Nat} {c : OC} {a : Addr} (p : SK g σ Hb H e σ1 Hb1 H1 e1) (h : e1[i]? = some (.own false false c)) (hs : σ1[i]? = some (some (.ref a))) : SK g σ Hb H e σ1 Hb1 H1 (e1.set i .un) ∧ ¬ Ow g (e1.set i .un) σ1 a := by
  have I := p.st
  have hi : i < e1.length := (List.getElem?_eq_some_iff.mp h).1
  have oth : ∀ (j : Nat) b k c', (e1.set i .un)[j]? = some (SS.own b k c') → i ≠ j ∧ e1[j]? = some (.own b k c') := fun j b k c' q => by
    by_cases z : i = j
    · subst z
      rw [List.getElem?_set_self hi] at q
      cases q
    · rw [List.getElem?_set_ne z] at q
      exact ⟨z, q⟩
  have ow : ∀ b, Ow g (e1.set i .un) σ1 b → Ow g e1 σ1 b := fun b z => by
    rcases z with z | ⟨j, b', k, c', z1, z2⟩
    · exact .inl z
    · exact .inr ⟨j, b', k, c', (oth j b' k c' z1).2, z2⟩
  refine ⟨⟨⟨p.vp.b, p.vp.k, p.vp.n, fun b z => p.vp.s b (ow b z), p.vp.t⟩, ⟨by simp [I.len], I.ex, fun j d q => ?_, fun j b k c' q => I.own j b k c' (oth j b k c' q).2, fun j l b k c1 b' k' c2 a' q1 q2 => I.inj j l b k c1 b' k' c2 a' (oth j _ _ _ q1).2 (oth l _ _ _ q2).2, I.tok, I.tbn⟩, ⟨by simp [p.ek.len], p.ek.slen, fun j b k c' q w => ?_⟩⟩, fun z => ?_⟩
  · by_cases z : i = j
    · subst z
      rw [List.getElem?_set_self hi] at q
      cases q
    · rw [List.getElem?_set_ne z] at q
      exact I.dat j d q
  · obtain ⟨c2, h1, h2, h3⟩ := p.ek.at' j b k c' q w
    have ne : i ≠ j := fun z => by
      subst z
      rw [h] at h1; cases h1
      rcases w with w | w <;> cases w
    exact ⟨c2, by rw [List.getElem?_set_ne ne]; exact h1, h2, h3⟩
  · rcases z with z | ⟨j, b', k, c', z1, z2⟩
    · obtain ⟨a', e1', _, ro⟩ := I.own i _ _ _ h
      rw [hs] at e1'; cases e1'
      obtain ⟨u, hu, n1, _⟩ := ro.there
      obtain ⟨ps, q⟩ := (I.tbn a z).2
      rw [q] at hu; cases hu
      exact n1 ps rfl
    · obtain ⟨ne, q⟩ := oth j b' k c' z1
      exact ne (I.inj i j false false c b' k c' a h q hs z2)
theorem ss_ret {a : Expr} {ta : T} {pos : Pos} (ha : SE g X W a (ev ce ta)) : SS1 g X W (.Return (some a) pos) (ex ce (.ret ta)) := by
  intro e σ Hb H D I h
  rw [ex] at h
  refine tWS_of (ps_ret (pe_W X a)) ?_
  refine ha e σ Hb H _ I ?_
  cases q : ev ce ta e with
  | no => rw [q] at h; exact h
  | rz xd e1 => rw [q] at h; exact fun cls d Hb' H' pk rx => h cls d σ Hb' H' pk.sk rx
  | ok v e1 =>
    rw [q] at h
    intro x Hb1 H1 p1 r1
    have h1 : CO g W D σ Hb H e (retV v e1) := h
    cases v with
    | p d => exact h1 x σ Hb1 H1 p1.sk r1
    | fr c =>
      obtain ⟨ad, rfl, h0, hb, ro, no⟩ := r1
      exact h1 _ σ Hb1 H1 p1.sk ⟨ad, rfl, .inl h0, hb, ro, no⟩
    | vw i =>
      obtain ⟨hs, s, h2, n⟩ := r1
      unfold retV at h1
      dsimp only at h1
      rw [h2] at h1
      cases s with
      | un => exact absurd rfl n
      | dat d =>
        obtain ⟨y, z1, z2⟩ := p1.st.dat i d h2
        rw [hs] at z1; cases z1
        exact h1 _ σ Hb1 H1 p1.sk z2
      | own b k c =>
        cases b with
        | true => exact h1.elim
        | false =>
          cases k with
          | true => exact h1.elim
          | false =>
            obtain ⟨ad, z1, hb, ro⟩ := p1.st.own i _ _ _ h2
            rw [hs] at z1; cases z1
            obtain ⟨sk, no⟩ := SK.unset p1.sk h2 hs
            refine h1 _ σ Hb1 H1 sk ⟨ad, rfl, ?_, hb, ro, no⟩
            rcases p1.vp.s ad (.inr ⟨i, _, _, c, h2, hs⟩) with z | z
            · exact .inr z
            · exact .inl z
end
end Vd
/-! Vd15: stores. -/
namespace Vd
open PySem PySem.Spec PyProof.Rows L2
section
variable {g : Gx} {kk : Nat} {X : Cx} {W : WX} {ce : CE} {σ σ1 : L2.St} {Hb H Hb1 H1 : Hp} {e e1 : VE}
/-! ### one name -/
theorem ss_setG {st : Stmt} {t : TE} {ta : T} {i : Nat} (hp : L2.PS X st (tAsg t (gName i))) (ht : ∀ e σ Hb H (Q : VK), VS g Hb e σ H → CA (PV g σ) g W σ Hb H e (ev ce ta e) Q → t σ H Q) : SS1 g X W st (ex ce (.set i ta)) := by
  intro e σ Hb H D I h
  rw [ex] at h
  refine tWS_of hp ?_
  refine ht e σ Hb H _ I ?_
  cases q : ev ce ta e with
  | no => rw [q] at h; exact h
  | rz xd e1 => rw [q] at h; exact fun cls d Hb' H' pk rx => h cls d σ Hb' H' pk.sk rx
  | ok v e1 =>
    rw [q] at h
    intro x Hb1 H1 p1 r1
    have h1 : CO g W D σ Hb H e (ofX (setV i v e1)) := h
    obtain ⟨e', q2, k⟩ := CO.ofX h1
    obtain ⟨Hb2, sk⟩ := SK.setV p1 r1 q2
    exact k _ Hb2 H1 sk
def noComp : Expr → Bool
  | .ListComp _ _ _ _ => false
  | .SetComp _ _ _ _ => false
  | .DictComp _ _ _ _ _ => false
  | _ => true
theorem sw_no {a : Expr} (h : noComp a = true) (t : Option Expr) (l : Nat) (env : Env) : swapsWith a t l env = pure false := by
  cases a <;> first | rfl | (cases h; done)
theorem ss_set {a : Expr} {ta : T} {i : Nat} {x : Str} {px pos : Pos} (G : Good g kk X W) (hi : X.N[i]? = some x) (hx : Loc X.env.scope x) (hf : X.fn x = true ∨ X.env.scope.names.lookup x = some .local) (hc : noComp a = true) (ha : SE g X W a (ev ce ta)) :
    SS1 g X W (.Assign [.Name x px] a pos) (ex ce (.set i ta)) := ss_setG (ps_set G.nd hi hx (pe_W X a) (sw_no hc _ _ _) hf) ha

/-! ### targets -/
def gW (X : Cx) (tg : Expr) : L2.TG := fun x σ H Q => ∀ pins s u, Inv X pins σ H s → RelV x u → wpAny (model X.prog X.w) X.A (assign tg X.env u) (fun _ s' => ∃ σ' H', Inv X pins σ' H' s' ∧ Q σ' H') X.xe s
theorem pg_W (X : Cx) (tg : Expr) : PG X tg (gW X tg) := ⟨fun pins s σ H v u Q I r h => h pins s u I r⟩
theorem gW_of {tg : Expr} {t : L2.TG} (h : PG X tg t) {x : V} {σ : L2.St} {H : Hp} {Q : L2.St → Hp → Prop} (q : t x σ H Q) : gW X tg x σ H Q := fun pins s u I r => h.run pins s σ H x u Q I r q
def gsW (X : Cx) (tgs : List Expr) : L2.TGs := fun xs σ H Q => ∀ pins s us, Inv X pins σ H s → Vals xs us → wpAny (model X.prog X.w) X.A (assignInOrder ((assignEach tgs X.env).map (·.2)) us) (fun _ s' => ∃ σ' H', Inv X pins σ' H' s' ∧ Q σ' H') X.xe s
theorem pgs_W (X : Cx) (tgs : List Expr) : PGs X tgs (gsW X tgs) := ⟨fun pins s σ H vs us Q I r h => h pins s us I r⟩
theorem gsW_of {tgs : List Expr} {t : L2.TGs} (h : PGs X tgs t) {xs : List V} {σ : L2.St} {H : Hp} {Q : L2.St → Hp → Prop} (q : t xs σ H Q) : gsW X tgs xs σ H Q := fun pins s us I r => h.run pins s σ H xs us Q I r q
mutual
/-- the slots of a target -/
def slots : TG → List Nat
  | .nm i => [i]
  | .tp l => slotss l
def slotss : List TG → List Nat
  | [] => []
  | t :: l => slots t ++ slotss l
end
def SG (g : Gx) (X : Cx) (tg : Expr) (G : TG) : Prop := ∀ e σ Hb H d x e' (Q : L2.St → Hp → Prop), VS g Hb e σ H → Rp g Hb d x → bindG G d e = some e' →
  (∀ σ', SK g σ Hb H e σ' Hb H e' → (∀ j : Nat, j ∉ slots G → σ'[j]? = σ[j]?) → (∀ j : Nat, j ∉ slots G → e'[j]? = e[j]?) → Q σ' H) → gW X tg x σ H Q
def SGs (g : Gx) (X : Cx) (tgs : List Expr) (Gs : List TG) : Prop := ∀ e σ Hb H ds xs e' (Q : L2.St → Hp → Prop), VS g Hb e σ H → Rps g Hb ds xs → bindGs Gs ds e = some e' →
  (∀ σ', SK g σ Hb H e σ' Hb H e' → (∀ j : Nat, j ∉ slotss Gs → σ'[j]? = σ[j]?) → (∀ j : Nat, j ∉ slotss Gs → e'[j]? = e[j]?) → Q σ' H) → gsW X tgs xs σ H Q
theorem sg_nm {i : Nat} {x : Str} {px : Pos} (hN : X.N.Nodup) (hi : X.N[i]? = some x) (hx : Loc X.env.scope x) (hf : X.fn x = true ∨ X.env.scope.names.lookup x = some .local) : SG g X (.Name x px) (.nm i) := by
  intro e σ Hb H d v e' Q I r h k
  refine gW_of (pg_name hN hi hx hf) ?_
  have h' : putS i (.dat d) e = some e' := by unfold bindG at h; exact h
  refine k _ (.putP I h' r) (fun j hj => ?_) (fun j hj => ?_)
  · unfold slots at hj
    rw [List.getElem?_set_ne (fun z => hj (by simp [z]))]
  · unfold slots at hj
    obtain ⟨_, rfl, _⟩ := putS_some h'
    rw [List.getElem?_set_ne (fun z => hj (by simp [z]))]
theorem sgs_nil : SGs g X [] [] := by
  intro e σ Hb H ds xs e' Q I r h k
  refine gsW_of pgs_nil ?_
  cases ds with
  | nil =>
    cases r
    unfold bindGs at h
    cases h
    exact ⟨rfl, k σ (.refl I) (fun _ _ => rfl) (fun _ _ => rfl)⟩
  | cons d l => unfold bindGs at h; cases h
theorem asg1 {t : Expr} (h : noStar t = true) (r : List Expr) (env : Env) : assignEach (t :: r) env = (false, assign t env) :: assignEach r env := by
  cases t <;> first | rfl | (cases h; done)
theorem sgs_cons {t : Expr} {l : List Expr} {G : TG} {Gs : List TG} (hs : noStar t = true) (h1 : SG g X t G) (h2 : SGs g X l Gs) : SGs g X (t :: l) (G :: Gs) := by
  intro e σ Hb H ds xs e' Q I r h k
  refine gsW_of (pgs_cons (pg_W X t) (pgs_W X l) (by rw [asg1 hs]; rfl)) ?_
  cases ds with
  | nil => unfold bindGs at h; cases h
  | cons d ds =>
    obtain ⟨x, xs', rfl, r1, r2⟩ := r
    unfold bindGs at h
    cases q : bindG G d e with
    | none => rw [q] at h; cases h
    | some e1 =>
      rw [q] at h
      refine ⟨x, xs', rfl, h1 e σ Hb H d x e1 _ I r1 q fun σ1 sk s1 t1 => ?_⟩
      refine h2 e1 σ1 Hb H ds xs' e' Q sk.st r2 h fun σ2 sk2 s2 t2 => k σ2 (sk.trans sk2) (fun j hj => ?_) (fun j hj => ?_)
      · unfold slotss at hj
        rw [List.mem_append, not_or] at hj
        rw [s2 j hj.2, s1 j hj.1]
      · unfold slotss at hj
        rw [List.mem_append, not_or] at hj
        rw [t2 j hj.2, t1 j hj.1]
theorem asg_len {env : Env} : ∀ {es : List Expr}, es.all noStar = true → (assignEach es env).length = es.length ∧ (assignEach es env).findIdx? (·.1) = none
  | [], _ => ⟨rfl, rfl⟩
  | a :: l, h => by
    rw [List.all_cons, Bool.and_eq_true] at h
    obtain ⟨h1, h2⟩ := asg_len (env := env) h.2
    rw [asg1 h.1]
    exact ⟨by rw [List.length_cons, List.length_cons, h1], by rw [List.findIdx?_cons, h2]; rfl⟩
theorem bindGs_len : ∀ {Gs : List TG} {ds : List D} {e e' : VE}, bindGs Gs ds e = some e' → ds.length = Gs.length
  | [], [], _, _, _ => rfl
  | [], _ :: _, _, _, h => by unfold bindGs at h; cases h
  | _ :: _, [], _, _, h => by unfold bindGs at h; cases h
  | G :: Gs, d :: ds, e, e', h => by
    unfold bindGs at h
    cases q : bindG G d e with
    | none => rw [q] at h; cases h
    | some e1 => rw [q] at h; rw [List.length_cons, List.length_cons, bindGs_len h]
theorem sg_tp {es : List Expr} {Gs : List TG} {k : Nat} {pos : Pos} (hK : X.K = g.K) (hc : X.calm = true) (hs : es.all noStar = true) (hl : es.length = Gs.length) (h : SGs g X es Gs) : SG g X (.Tuple es k pos) (.tp Gs) := by
  intro e σ Hb H d x e' Q I r hb kq
  cases d <;> first | (unfold bindG at hb; cases hb; done) | skip
  rename_i l
  unfold bindG at hb
  obtain ⟨a, vs, rfl, h1, h2⟩ := r
  obtain ⟨z1, z2⟩ := asg_len (env := X.env) hs
  refine gW_of (pg_tup hc (pgs_W X es) z1 z2) ⟨a, vs, rfl, by rw [hK]; exact I.ex.sqt h1, by rw [h2.length, bindGs_len hb, hl], ?_⟩
  refine h e σ Hb H l vs e' Q I h2 hb fun σ' sk s1 t1 => kq σ' sk (fun j hj => s1 j ?_) (fun j hj => t1 j ?_)
  · unfold slots at hj; exact hj
  · unfold slots at hj; exact hj
/-- a, b = e -/
theorem ss_unp {tgs : List Expr} {a : Expr} {Gs : List TG} {ta : T} {k : Nat} {tp pos : Pos} (hg : SG g X (.Tuple tgs k tp) (.tp Gs)) (hc : noComp a = true) (hsw : swappedStores [.Tuple tgs k tp] a X.env = pure none) (ha : SE g X W a (ev ce ta)) :
    SS1 g X W (.Assign [.Tuple tgs k tp] a pos) (ex ce (.unp (.tp Gs) ta)) := by
  intro e σ Hb H D I h
  rw [ex] at h
  refine tWS_of (ps_asg (pe_W X a) (pg_W X _) (sw_no hc _ _ _) hsw rfl) ?_
  refine ha e σ Hb H _ I ?_
  cases q : ev ce ta e with
  | no => rw [q] at h; exact h
  | rz xd e1 => rw [q] at h; exact fun cls d Hb' H' pk rx => h cls d σ Hb' H' pk.sk rx
  | ok v e1 =>
    rw [q] at h
    intro x Hb1 H1 p1 r1
    have h1 : CO g W D σ Hb H e ((ofP (fz e1 v)).out fun d e => ofX (bindG (.tp Gs) d e)) := h
    cases q2 : fz e1 v with
    | none => rw [q2] at h1; exact h1.elim
    | some pr =>
      obtain ⟨d, e2⟩ := pr
      rw [q2] at h1
      obtain ⟨e', q3, kq⟩ := CO.ofX (show CO g W D σ Hb H e (ofX (bindG (.tp Gs) d e2)) from h1)
      obtain ⟨Hb2, p2, b2, k2⟩ := RVs.keep (vs := [v]) (xs := [x]) p1 ⟨x, [], rfl, r1, rfl, fun _ _ j c' z => by simp at z⟩
      obtain ⟨y, r, ey, k3, er⟩ := k2
      cases er; cases ey
      obtain ⟨Hb3, p3, b3, _, s3⟩ := fz_ok p2 k3 q2
      exact hg e2 σ Hb3 H1 d x e' _ p3.st s3 q3 fun σ' sk _ _ => kq σ' Hb3 H1 (p3.sk.trans sk)

/-! ### a, b = x, y -/
/-- values, none of them a view -/
def NVs (g : Gx) (H0 Hb H : Hp) (e : VE) (σ : L2.St) : List Val → List V → Prop
  | [], xs => xs = []
  | v :: l, xs => ∃ x r, xs = x :: r ∧ ((∃ d, v = .p d ∧ Rp g Hb d x) ∨ ∃ c a, v = .fr c ∧ x = .ref a ∧ H0 a = none ∧ Hb a = none ∧ RO g Hb H c a ∧ ¬ Ow g e σ a ∧ ∀ (j : Nat) c', l[j]? = some (Val.fr c') → r[j]? ≠ some x) ∧ NVs g H0 Hb H e σ l r
def setAll : List Nat → List V → L2.St → L2.St
  | i :: is, x :: xs, σ => setAll is xs (σ.set i (some x))
  | _, _, σ => σ
theorem NVs.ow {H0 : Hp} {e2 : VE} {σ2 : L2.St} : ∀ {vs : List Val} {xs : List V}, NVs g H0 Hb H e σ vs xs → (∀ (j : Nat) c a, vs[j]? = some (Val.fr c) → xs[j]? = some (V.ref a) → Ow g e2 σ2 a → Ow g e σ a) → NVs g H0 Hb H e2 σ2 vs xs
  | [], _, h, _ => h
  | v :: l, _, h, k => by
    obtain ⟨x, r, rfl, h1, h2⟩ := h
    refine ⟨x, r, rfl, ?_, NVs.ow h2 fun j c a z z' => k (j + 1) c a (by simpa using z) (by simpa using z')⟩
    rcases h1 with h1 | ⟨c, a, rfl, rfl, z1, z2, z3, z4, z5⟩
    · exact .inl h1
    · exact .inr ⟨c, a, rfl, rfl, z1, z2, z3, fun w => z4 (k 0 c a rfl rfl w), z5⟩
theorem setVs_ok {σ0 : L2.St} {Hb0 H0 : Hp} {e0 : VE} : ∀ {is : List Nat} {vs : List Val} {xs : List V} {e : VE} {σ : L2.St} {e' : VE}, SK g σ0 Hb0 H0 e0 σ Hb H e → NVs g H0 Hb H e σ vs xs → setVs is vs e = some e' → SK g σ0 Hb0 H0 e0 (setAll is xs σ) Hb H e'
  | [], [], xs, e, σ, e', sk, _, h => by unfold setVs at h; cases h; exact sk
  | [], _ :: _, _, _, _, _, _, _, h => by unfold setVs at h; cases h
  | _ :: _, [], _, _, _, _, _, _, h => by unfold setVs at h; cases h
  | i :: is, v :: vs, xs, e, σ, e', sk, nv, h => by
    obtain ⟨x, r, rfl, h1, h2⟩ := nv
    unfold setVs at h
    cases q : Vd.setV i v e with
    | none => rw [q] at h; cases h
    | some e2 =>
      rw [q] at h
      show SK g σ0 Hb0 H0 e0 (setAll is r (σ.set i (some x))) Hb H e'
      have len := sk.st.len
      rcases h1 with ⟨d, rfl, r1⟩ | ⟨c, a, rfl, rfl, z1, z2, z3, z4, z5⟩
      · have q' : putS i (.dat d) e = some e2 := q
        have sk1 := SK.putP sk.st q' r1
        refine setVs_ok (sk.trans sk1) (h2.ow fun j c a w w' ow => ?_) h
        obtain ⟨hi, rfl, hn⟩ := putS_some q'
        rcases ow with ow | ⟨j', b, k, c', y1, y2⟩
        · exact .inl ow
        · by_cases z : i = j'
          · subst z
            rw [List.getElem?_set_self hi] at y1; cases y1
          · rw [List.getElem?_set_ne z] at y1 y2
            exact .inr ⟨j', b, k, c', y1, y2⟩
      · have q' : putS i (.own false false c) e = some e2 := q
        have sk1 := SK.putF sk q' z1 z2 z3 z4
        refine setVs_ok sk1 (h2.ow fun j c2 a2 w w' ow => ?_) h
        obtain ⟨hi, rfl, hn⟩ := putS_some q'
        rcases ow with ow | ⟨j', b, k, c', y1, y2⟩
        · exact .inl ow
        · by_cases z : i = j'
          · subst z
            rw [List.getElem?_set_self (by rw [← len]; exact hi)] at y2
            cases y2
            exact absurd w' (z5 j c2 w)
          · rw [List.getElem?_set_ne z] at y1 y2
            exact .inr ⟨j', b, k, c', y1, y2⟩
theorem NVs.step {H0 : Hp} (p : PK g σ Hb H e Hb1 H1 e1) : ∀ {vs : List Val} {xs : List V}, NVs g H0 Hb H e σ vs xs → NVs g H0 Hb1 H1 e1 σ vs xs
  | [], _, h => h
  | v :: l, _, h => by
    obtain ⟨x, r, rfl, h1, h2⟩ := h
    refine ⟨x, r, rfl, ?_, NVs.step p h2⟩
    rcases h1 with ⟨d, rfl, r1⟩ | ⟨c, a, rfl, rfl, z1, z2, z3, z4, z5⟩
    · exact .inl ⟨d, rfl, Rp.mono p.vp.b d _ r1⟩
    · obtain ⟨a', ea, _, y1, y2, y3⟩ := RV.step (v := .fr c) (H0 := H0) ⟨a, rfl, z1, z2, z3, z4⟩ p
      cases ea
      exact .inr ⟨c, a, rfl, rfl, z1, y1, y2, y3, z5⟩
theorem fzVs_fr {l : List Val} : ∀ {e : VE} {vs : List Val} {e' : VE} {j : Nat} {c : OC}, fzVs l e = some (vs, e') → vs[j]? = some (Val.fr c) → l[j]? = some (Val.fr c) := by
  induction l with
  | nil => intro e vs e' j c h z; cases h; simp at z
  | cons v l ih =>
    intro e vs e' j c h z
    unfold fzVs at h
    cases q : fzV e v with
    | none => rw [q] at h; cases h
    | some pr =>
      obtain ⟨w, e1⟩ := pr
      rw [q] at h
      dsimp only [Option.bind] at h
      cases q2 : fzVs l e1 with
      | none => rw [q2] at h; cases h
      | some pr =>
        obtain ⟨ws, e2⟩ := pr
        rw [q2] at h
        cases h
        cases j with
        | zero =>
          simp at z
          subst z
          cases v with
          | p d => cases q
          | fr c' => cases q; rfl
          | vw i =>
            exfalso
            have q' : (fz e (.vw i)).map (fun p => (Val.p p.1, p.2)) = some (Val.fr c, e1) := q
            cases q3 : fz e (.vw i) with
            | none => rw [q3] at q'; cases q'
            | some y => rw [q3] at q'; cases q'
        | succ j => exact ih q2 (by simpa using z)
theorem fzVs_ok {σ : L2.St} {Hb0 H0 : Hp} {e0 : VE} : ∀ {vs : List Val} {xs : List V} {Hb : Hp} {e : VE} {ws : List Val} {e' : VE}, PK g σ Hb0 H0 e0 Hb H e → RVs g H0 Hb H e σ vs xs → fzVs vs e = some (ws, e') → ∃ Hb', PK g σ Hb0 H0 e0 Hb' H e' ∧ PK g σ Hb H e Hb' H e' ∧ NVs g H0 Hb' H e' σ ws xs
  | [], _, Hb, e, ws, e', p, r, h => by cases h; exact ⟨Hb, p, .refl p.st, r⟩
  | v :: l, _, Hb, e, ws, e', p, r, h => by
    obtain ⟨x, xs, rfl, r1, r2, r3⟩ := r
    unfold fzVs at h
    cases q : fzV e v with
    | none => rw [q] at h; cases h
    | some y =>
      obtain ⟨w, e1⟩ := y
      rw [q] at h
      dsimp only [Option.bind] at h
      cases q' : fzVs l e1 with
      | none => rw [q'] at h; cases h
      | some y =>
        obtain ⟨ws1, e2⟩ := y
        rw [q'] at h
        cases h
        have frs : ∀ (j : Nat) c', ws1[j]? = some (Val.fr c') → l[j]? = some (Val.fr c') := fun j c' z => fzVs_fr q' z
        cases v with
        | p d =>
          cases q
          obtain ⟨Hb1, p1, p2, s⟩ := fzVs_ok p r2 q'
          exact ⟨Hb1, p1, p2, x, xs, rfl, .inl ⟨d, rfl, Rp.mono p2.vp.b d x r1⟩, s⟩
        | fr c =>
          cases q
          obtain ⟨Hb1, p1, p2, s⟩ := fzVs_ok p r2 q'
          obtain ⟨a, rfl, y0, y1, y2, y3⟩ := RV.step r1 p2
          exact ⟨Hb1, p1, p2, _, xs, rfl, .inr ⟨c, a, rfl, rfl, y0, y1, y2, y3, fun j c' z => r3 c rfl j c' (frs j c' z)⟩, s⟩
        | vw i =>
          have q0 : (fz e (.vw i)).map (fun p => (Val.p p.1, p.2)) = some (w, e1) := q
          cases q3 : fz e (.vw i) with
          | none => rw [q3] at q0; cases q0
          | some y =>
            obtain ⟨d, e3⟩ := y
            rw [q3] at q0
            cases q0
            obtain ⟨Hb1, p1, b1, _, s1⟩ := fz_ok (.refl p.st) (v := .vw i) (x := x) r1 q3
            obtain ⟨Hb2, p2, p3, s⟩ := fzVs_ok (p.trans p1) (RVs.step p1 r2) q'
            exact ⟨Hb2, p2, p1.trans p3, x, xs, rfl, .inl ⟨d, rfl, Rp.mono p3.vp.b d x s1⟩, s⟩
theorem par_run {es : List Expr} {ts : List T} {is : List Nat} {D : Ends} (ha : SA g X W es (evs ce ts)) (I : VS g Hb e σ H) (h : CO g W D σ Hb H e (ex ce (.par is ts) e)) :
    tWA X es σ H fun xs H1 => xs.length = ts.length ∧ D.nx (setAll is xs σ) H1 := by
  rw [ex] at h
  refine ha e σ Hb H _ I ?_
  cases q : evs ce ts e with
  | no => rw [q] at h; exact h
  | rz xd e1 => rw [q] at h; exact fun cls d Hb' H' pk rx => h cls d σ Hb' H' pk.sk rx
  | ok vs e1 =>
    rw [q] at h
    intro xs Hb1 H1 p1 r1
    have h1 : CO g W D σ Hb H e ((ofP (fzVs vs e1)).out fun vs e => ofX (setVs is vs e)) := h
    cases q2 : fzVs vs e1 with
    | none => rw [q2] at h1; exact h1.elim
    | some pr =>
      obtain ⟨ws, e2⟩ := pr
      rw [q2] at h1
      obtain ⟨e', q3, kq⟩ := CO.ofX (show CO g W D σ Hb H e (ofX (setVs is ws e2)) from h1)
      obtain ⟨Hb2, p2, p3, nv⟩ := fzVs_ok p1 r1 q2
      exact ⟨by rw [r1.length, evs_len q], kq _ Hb2 H1 (setVs_ok p2.sk nv q3)⟩
theorem ss_par2 {i j : Nat} {x y : Str} {a b : Expr} {ta tb : T} {px py pt pt2 pos : Pos} {kt k2 : Nat} (G : Good g kk X W) (hi : X.N[i]? = some x) (hj : X.N[j]? = some y) (hij : i ≠ j) (hx : X.env.scope.names.lookup x = some .local) (hy : X.env.scope.names.lookup y = some .local)
    (hw : swappedStores [.Tuple [.Name x px, .Name y py] kt pt] (.Tuple [a, b] k2 pt2) X.env = pure (some [x, y])) (ha : SA g X W [a, b] (evs ce [ta, tb])) :
    SS1 g X W (.Assign [.Tuple [.Name x px, .Name y py] kt pt] (.Tuple [a, b] k2 pt2) pos) (ex ce (.par [i, j] [ta, tb])) := by
  intro e σ Hb H D I h
  refine tWS_of (ps_par G.calm G.nd hi hj hij hx hy (pa_W X [a, b]) hw rfl) ?_
  intro pos pins s J
  refine thn (par_run ha I h pos pins s J) fun us s' ⟨xs, H', J', r, hl, q⟩ => ⟨xs, H', J', r, ?_⟩
  match xs, hl, q with
  | [u, v], _, q => exact ⟨u, v, rfl, q⟩
theorem ss_par3 {i j l : Nat} {x y z : Str} {a b c : Expr} {ta tb tc : T} {px py pz pt pt2 pos : Pos} {kt k2 : Nat} (G : Good g kk X W) (hi : X.N[i]? = some x) (hj : X.N[j]? = some y) (hl : X.N[l]? = some z) (hij : i ≠ j) (hil : i ≠ l) (hjl : j ≠ l)
    (hx : X.env.scope.names.lookup x = some .local) (hy : X.env.scope.names.lookup y = some .local) (hz : X.env.scope.names.lookup z = some .local)
    (hw : swappedStores [.Tuple [.Name x px, .Name y py, .Name z pz] kt pt] (.Tuple [a, b, c] k2 pt2) X.env = pure (some [x, y, z])) (ha : SA g X W [a, b, c] (evs ce [ta, tb, tc])) :
    SS1 g X W (.Assign [.Tuple [.Name x px, .Name y py, .Name z pz] kt pt] (.Tuple [a, b, c] k2 pt2) pos) (ex ce (.par [i, j, l] [ta, tb, tc])) := by
  intro e σ Hb H D I h
  refine tWS_of (L2.ps_par3 G.calm G.nd hi hj hl hij hil hjl hx hy hz (pa_W X [a, b, c]) hw rfl) ?_
  intro pos pins s J
  refine thn (par_run ha I h pos pins s J) fun us s' ⟨xs, H', J', r, hl, q⟩ => ⟨xs, H', J', r, ?_⟩
  match xs, hl, q with
  | [u, v, w], _, q => exact ⟨u, v, w, rfl, q⟩

/-! ### o[i] = v -/
def kW (X : Cx) : TSet := fun o i v H Q => ∀ pins s σ ov iv u, Inv X pins σ H s → RelV o ov → RelV i iv → RelV v u → wpAny (model X.prog X.w) X.A (setItem ov iv u) (fun _ s' => ∃ H', Inv X pins σ H' s' ∧ Q H') X.xe s
theorem set_W (X : Cx) : PSet X (kW X) := fun pins s σ H o i v ov iv u Q I ro ri rv h => h pins s σ ov iv u I ro ri rv
theorem kW_of {r : TSet} (h : PSet X r) {o i v : V} {H : Hp} {Q : Hp → Prop} (q : r o i v H Q) : kW X o i v H Q := fun pins s σ ov iv u I ro ri rv => h pins s σ H o i v ov iv u Q I ro ri rv q
theorem set_dict (hu : X.A.units + 1 < cLine) : PSet X (fun o i v H Q => ∃ a H', o = .ref a ∧ DPut H a i v H' ∧ Q H') := by
  intro pins s σ H o i v ov iv u Q I ro ri rv h
  obtain ⟨a, H', rfl, hp, q⟩ := h
  obtain rfl : ov = Value.ref a := ro
  exact d_setItem hu I hp ri rv fun s' I' => ⟨H', I', q⟩
theorem ss_sub {a b v : Expr} {ta tb tv : T} {p2 pos : Pos} (G : Good g kk X W) (hc : noComp v = true) (hb : noSlice b = true) (hsw : swappedStores [.Subscript a b p2] v X.env = pure none) (hv : SE g X W v (ev ce tv)) (ha : SE g X W a (ev ce ta)) (hi : SE g X W b (ev ce tb)) :
    SS1 g X W (.Assign [.Subscript a b p2] v pos) (ex ce (.sub ta tb tv)) := by
  intro e σ Hb H Dn I h
  rw [ex] at h
  have hg : PG X (.Subscript a b p2) (gSub (tW X a) (tW X b) (kW X)) := pg_sub (pe_W X a) (pe_W X b) (set_W X) (by
    intro v
    cases b <;> first | rfl | (cases hb; done))
  refine tWS_of (ps_asg (pos := pos) (pe_W X v) hg (sw_no hc (some (.Subscript a b p2)) pos.line X.env) hsw rfl) ?_
  refine hv e σ Hb H _ I ?_
  cases q : ev ce tv e with
  | no => rw [q] at h; exact h
  | rz xd e1 => rw [q] at h; exact fun cls d Hb' H' pk rx => h cls d σ Hb' H' pk.sk rx
  | ok w e1 =>
    rw [q] at h
    intro x Hb1 H1 p1 r1
    -- the value is there; the object, the index
    have h1 : CO g W Dn σ Hb H e ((ev ce ta e1).out fun x e => (ev ce tb e).out fun y e => ofX (subV x y w e)) := h
    refine ha e1 σ Hb1 H1 _ p1.st ?_
    cases q2 : ev ce ta e1 with
    | no => rw [q2] at h1; exact h1
    | rz xd e2 => rw [q2] at h1; exact fun cls d Hb' H' pk rx => h1 cls d σ Hb' H' (p1.trans pk).sk rx
    | ok o e2 =>
      rw [q2] at h1
      intro y Hb2 H2 p2 r2
      have h2 : CO g W Dn σ Hb H e ((ev ce tb e2).out fun y e => ofX (subV o y w e)) := h1
      refine hi e2 σ Hb2 H2 _ p2.st ?_
      cases q3 : ev ce tb e2 with
      | no => rw [q3] at h2; exact h2
      | rz xd e3 => rw [q3] at h2; exact fun cls d Hb' H' pk rx => h2 cls d σ Hb' H' ((p1.trans p2).trans pk).sk rx
      | ok ii e3 =>
        rw [q3] at h2
        intro z Hb3 H3 p3 r3
        obtain ⟨e', q4, kq⟩ := CO.ofX (show CO g W Dn σ Hb H e (ofX (subV o ii w e3)) from h2)
        cases o with
        | p d => cases q4
        | fr c => cases q4
        | vw i =>
          unfold subV at q4
          dsimp only at q4
          cases q5 : fz e3 w with
          | none => rw [q5] at q4; cases q4
          | some pr =>
            obtain ⟨d, e4⟩ := pr
            rw [q5] at q4
            dsimp only [Option.bind] at q4
            -- all three kept
            have r1' := (RV.step r1 p2).step p3
            have pall := (p1.trans p2).trans p3
            obtain ⟨Hb4, p4, b4, k4⟩ := RVs.keep (vs := [w]) (xs := [x]) pall ⟨x, [], rfl, r1', rfl, fun _ _ j c' z => by simp at z⟩
            obtain ⟨x', r, ex', k4, er⟩ := k4
            cases er; cases ex'
            obtain ⟨Hb5, p5, b5, ek5, s5⟩ := fz_ok p4 k4 q5
            -- the place
            have r2' : RV g H1 Hb3 H3 e3 σ (.vw i) y := RV.step r2 p3
            have hσ := r2'.1
            cases q6 : e4[i]? with
            | none => rw [q6] at q4; cases q4
            | some si =>
              rw [q6] at q4
              cases si with
              | un => cases q4
              | dat d' => cases q4
              | own b k c =>
                obtain ⟨ad, y1, _, ro⟩ := p5.st.own i b k c q6
                rw [hσ] at y1
                cases y1
                -- the index, read at the end
                have idx : ∀ {dz : D}, rd e4 ii = some dz → RR g Hb5 H3 dz z := by
                  intro dz hz
                  cases ii with
                  | p d0 => cases hz; exact RR.of p5.st.ex (Rp.mono (b4.trans b5) _ _ r3)
                  | vw j =>
                    obtain ⟨w1, s, w2, w3⟩ := r3
                    have hz' : (e4[j]?).bind SS.rd = some dz := hz
                    cases q7 : e4[j]? with
                    | none => rw [q7] at hz'; cases hz'
                    | some sj =>
                      rw [q7] at hz'
                      cases sj with
                      | un => cases hz'
                      | dat d0 =>
                        cases hz'
                        obtain ⟨v0, y1, y2⟩ := p5.st.dat j _ q7
                        rw [w1] at y1; cases y1
                        exact RR.of p5.st.ex y2
                      | own b0 k0 c0 =>
                        cases hz'
                        obtain ⟨a0, y1, _, y2⟩ := p5.st.own j _ _ _ q7
                        rw [w1] at y1; cases y1
                        exact RR.ofO y2
                  | fr c0 =>
                    exfalso
                    -- a new list as an index: never
                    cases c0 <;> (cases hz; cases b <;> cases k <;> cases c <;> simp [rd, OC.toD, keyOf] at q4)
                cases k with
                | true => cases b <;> cases c <;> simp at q4
                | false =>
                  cases c with
                  | oi c fs => simp at q4
                  | ol l =>
                    cases q7 : rd e4 ii with
                    | none => rw [q7] at q4; simp at q4
                    | some dz =>
                      rw [q7] at q4
                      cases dz <;> first | (simp at q4; done) | skip
                      rename_i kx
                      simp only [Option.map] at q4
                      have iz : z = .int kx := idx q7
                      subst iz
                      obtain ⟨vs, hh, rp⟩ := ro
                      cases q8 : ixn l.length kx with
                      | none => rw [q8] at q4; cases q4
                      | some jx =>
                        rw [q8] at q4
                        cases q4
                        refine kW_of set_list ⟨ad, vs, kx, jx, rfl, rfl, hh, by rw [rp.length]; exact q8, ?_⟩
                        exact kq σ Hb5 _ (p5.trans (.write p5.st q6 hσ (c' := .ol (l.set jx d)) ⟨_, upd_same, rp.set jx s5⟩)).sk
                  | od l =>
                    cases q7 : rd e4 ii with
                    | none => rw [q7] at q4; simp at q4
                    | some dz =>
                      rw [q7] at q4
                      simp only at q4
                      cases q8 : keyOf dz with
                      | none => rw [q8] at q4; cases q4
                      | some kx =>
                        rw [q8] at q4
                        dsimp only [Option.bind] at q4
                        split at q4
                        · rename_i hlt
                          cases q4
                          have iz : z = kV (kT kx) := key_V q8 ((idx q7).rp p5.st.ex)
                          subst iz
                          obtain ⟨kvs, hh, rp⟩ := ro
                          have hu : X.A.units + 1 < cLine := by have := G.hu; omega
                          refine kW_of (set_dict hu) ⟨ad, _, rfl, .k hh (by rw [rpk_len rp, ← line_eq]; exact hlt), ?_⟩
                          exact kq σ Hb5 _ (p5.trans (.write p5.st q6 hσ (c' := .od (putD l kx d)) ⟨_, upd_same, rpk_put s5 rp⟩)).sk
                        · cases q4
end
end Vd
/-! Vd16: loops. -/
namespace Vd
open PySem PySem.Spec PyProof.Rows L2
/-! ### locks -/
theorem lock_lock (b c : Bool) (s : SS) : (s.lock b).lock c = s.lock c := by cases s <;> rfl
theorem modAll_at (h : Nat → SS → SS) (hh : ∀ i s, h i (h i s) = h i s) (j : Nat) : ∀ (l : List Nat) (e : VE), (l.foldl (fun e i => e.modify i (h i)) e)[j]? = if j ∈ l then (e[j]?).map (h j) else e[j]?
  | [], e => by simp
  | i :: l, e => by
    rw [List.foldl_cons, modAll_at h hh j l]
    by_cases z : i = j
    · subst z
      rw [if_pos (List.mem_cons_self)]
      cases q : e[i]? with
      | none =>
        have : (e.modify i (h i))[i]? = none := by rw [List.getElem?_modify, q]; rfl
        rw [this]; split <;> rfl
      | some s =>
        rw [mod_eq q]
        split
        · simp [hh]
        · rfl
    · rw [mod_ne z]
      by_cases m : j ∈ l
      · rw [if_pos m, if_pos (List.mem_cons_of_mem _ m)]
      · rw [if_neg m, if_neg (by simp only [List.mem_cons, not_or]; exact ⟨fun w => z w.symm, m⟩)]
theorem modAll_len (h : Nat → SS → SS) : ∀ (l : List Nat) (e : VE), (l.foldl (fun e i => e.modify i (h i)) e).length = e.length
  | [], e => rfl
  | i :: l, e => by rw [List.foldl_cons, modAll_len h l]; simp
theorem lockE_at (l : List Nat) (e : VE) (j : Nat) : (lockE l e)[j]? = if j ∈ l then (e[j]?).map (SS.lock true) else e[j]? := modAll_at (fun _ => SS.lock true) (fun _ s => lock_lock true true s) j l e
theorem unlockE_at (e0 : VE) (l : List Nat) (e : VE) (j : Nat) : (unlockE e0 l e)[j]? = if j ∈ l then (e[j]?).map (SS.lock ((e0[j]?).elim false SS.lk)) else e[j]? :=
  modAll_at (fun i => SS.lock ((e0[i]?).elim false SS.lk)) (fun _ s => lock_lock _ _ s) j l e
theorem lockE_len (l : List Nat) (e : VE) : (lockE l e).length = e.length := modAll_len _ l e
theorem unlockE_len (e0 : VE) (l : List Nat) (e : VE) : (unlockE e0 l e).length = e.length := modAll_len _ l e
/-- the same up to locks -/
structure RLK (e e' : VE) : Prop where
  len : e'.length = e.length
  at' : ∀ (j : Nat), ∃ b, e'[j]? = (e[j]?).map (SS.lock b) ∨ e'[j]? = e[j]?
theorem RLK.lock (l : List Nat) (e : VE) : RLK e (lockE l e) := ⟨lockE_len l e, fun j => ⟨true, by rw [lockE_at]; split; exact .inl rfl; exact .inr rfl⟩⟩
theorem RLK.unlock (e0 : VE) (l : List Nat) (e : VE) : RLK e (unlockE e0 l e) := ⟨unlockE_len e0 l e, fun j => ⟨(e0[j]?).elim false SS.lk, by rw [unlockE_at]; split; exact .inl rfl; exact .inr rfl⟩⟩
theorem RLK.own {e e' : VE} (p : RLK e e') {j : Nat} {b k : Bool} {c : OC} (h : e'[j]? = some (.own b k c)) : ∃ k0, e[j]? = some (.own b k0 c) := by
  obtain ⟨b', z⟩ := p.at' j
  rcases z with z | z
  · rw [h] at z
    cases q : e[j]? with
    | none => rw [q] at z; cases z
    | some s =>
      rw [q] at z
      cases s with
      | un => cases z
      | dat d => cases z
      | own b0 k0 c0 => cases z; exact ⟨k0, rfl⟩
  · exact ⟨k, by rw [← z]; exact h⟩
theorem RLK.own' {e e' : VE} (p : RLK e e') {j : Nat} {b k : Bool} {c : OC} (h : e[j]? = some (.own b k c)) : ∃ k0, e'[j]? = some (.own b k0 c) := by
  obtain ⟨b', z⟩ := p.at' j
  rw [h] at z
  rcases z with z | z
  · exact ⟨b', z⟩
  · exact ⟨k, z⟩
theorem RLK.dat {e e' : VE} (p : RLK e e') {j : Nat} {d : D} (h : e'[j]? = some (.dat d)) : e[j]? = some (.dat d) := by
  obtain ⟨b', z⟩ := p.at' j
  rcases z with z | z
  · rw [h] at z
    cases q : e[j]? with
    | none => rw [q] at z; cases z
    | some s =>
      rw [q] at z
      cases s with
      | un => cases z
      | dat d => cases z; rfl
      | own b0 k0 c0 => cases z
  · rw [← z]; exact h
section
variable {g : Gx} {kk : Nat} {X : Cx} {W : WX} {ce : CE} {Dn : Ends} {σ σ1 : L2.St} {Hb H Hb1 H1 : Hp} {e e1 e0 : VE}
theorem RLK.ow {e' : VE} (p : RLK e e') : Ow g e' σ = Ow g e σ := by
  funext a
  apply propext
  constructor
  · rintro (z | ⟨i, b, k, c, z1, z2⟩)
    · exact .inl z
    · obtain ⟨k0, z⟩ := p.own z1; exact .inr ⟨i, b, k0, c, z, z2⟩
  · rintro (z | ⟨i, b, k, c, z1, z2⟩)
    · exact .inl z
    · obtain ⟨k0, z⟩ := p.own' z1; exact .inr ⟨i, b, k0, c, z, z2⟩
theorem VS.relock {e' : VE} (p : RLK e e') (I : VS g Hb e σ H) : VS g Hb e' σ H :=
  ⟨by rw [p.len]; exact I.len, I.ex, fun i d h => I.dat i d (p.dat h), fun i b k c h => let ⟨k0, z⟩ := p.own h; I.own i b k0 c z,
    fun i j b k c b' k' c' a h h' s s' => let ⟨k0, z⟩ := p.own h; let ⟨k1, z'⟩ := p.own h'; I.inj i j b k0 c b' k1 c' a z z' s s', I.tok, I.tbn⟩
/-- a step of the locked frame is one of the frame -/
theorem SK.unlock {l : List Nat} {σ' : L2.St} {Hb' H' : Hp} {e' : VE} (p : SK g σ Hb H (lockE l e0) σ' Hb' H' e') : SK g σ Hb H e0 σ' Hb' H' (unlockE e0 l e') := by
  have r1 := RLK.lock l e0
  have r2 := RLK.unlock e0 l e'
  refine ⟨by rw [r2.ow, ← r1.ow (σ := σ)]; exact p.vp, p.st.relock r2, ⟨by rw [unlockE_len, p.ek.len, lockE_len], p.ek.slen, fun i b k c h w => ?_⟩⟩
  by_cases m : i ∈ l
  · have h1 : (lockE l e0)[i]? = some (.own b true c) := by rw [lockE_at, if_pos m, h]; rfl
    obtain ⟨c', z1, z2, z3⟩ := p.ek.at' i b true c h1 (.inr rfl)
    refine ⟨c', ?_, z2, fun _ => z3 rfl⟩
    rw [unlockE_at, if_pos m, z1, h]
    rfl
  · have h1 : (lockE l e0)[i]? = some (.own b k c) := by rw [lockE_at, if_neg m, h]
    obtain ⟨c', z1, z2, z3⟩ := p.ek.at' i b k c h1 w
    exact ⟨c', by rw [unlockE_at, if_neg m]; exact z1, z2, z3⟩
theorem CO.unlock {l : List Nat} {o : Out} (h : CO g W Dn σ Hb H e0 (o.unlock e0 l)) : CO g W Dn σ Hb H (lockE l e0) o := by
  cases o with
  | nx e' => exact fun σ' Hb' H' p => h σ' Hb' H' p.unlock
  | bk e' => exact fun σ' Hb' H' p => h σ' Hb' H' p.unlock
  | ct e' => exact fun σ' Hb' H' p => h σ' Hb' H' p.unlock
  | rz xd e' => exact fun cls d σ' Hb' H' p rx => h cls d σ' Hb' H' p.unlock rx
  | no => exact h
  | rt r e' =>
    intro x σ' Hb' H' p rv
    refine h x σ' Hb' H' p.unlock ?_
    cases r with
    | p d => exact rv
    | fr c =>
      obtain ⟨a, rfl, h0, h1, h2, h3⟩ := rv
      exact ⟨a, rfl, h0.imp id fun z => by rw [← (RLK.lock l e0).ow]; exact z, h1, h2, by rw [(RLK.unlock e0 l e').ow]; exact h3⟩
/-- the iterables are as they were -/
theorem itas_read : ∀ {vs : List Val} {ds : List D} {xs : List V}, ItAs g Hb e0 σ vs ds xs → (∀ v d x, ItA g Hb e0 σ v d x → v ∈ vs → RR g Hb1 H1 d x) → RRs g Hb1 H1 ds xs
  | [], _, _, h, _ => by obtain ⟨rfl, rfl⟩ := h; rfl
  | v :: l, _, _, h, k => by
    obtain ⟨d, ds, x, xs, rfl, rfl, h1, h2⟩ := h
    exact ⟨x, xs, rfl, k v d x h1 (List.mem_cons_self), itas_read h2 fun v d x a m => k v d x a (List.mem_cons_of_mem _ m)⟩
theorem mem_vws {vs : List Val} {i : Nat} (h : Val.vw i ∈ vs) : i ∈ vws vs := by
  obtain ⟨j, hj⟩ := List.mem_iff_getElem?.mp h
  exact vws_at hj
theorem its_read {vs : List Val} {ds : List D} {xs : List V} (h : ItAs g Hb e0 σ vs ds xs) (p : SK g σ Hb H (lockE (vws vs) e0) σ1 Hb1 H1 e1) : RRs g Hb1 H1 ds xs := by
  refine itas_read h fun v d x a m => ?_
  rcases a with a | ⟨i, b, k, c, rfl, h1, rfl, h2⟩
  · exact RR.of p.st.ex (Rp.mono p.vp.b d x a)
  · have h3 : (lockE (vws vs) e0)[i]? = some (.own b true c) := by rw [lockE_at, if_pos (mem_vws m), h1]; rfl
    obtain ⟨c', z1, z2, z3⟩ := p.ek.at' i b true c h3 (.inr rfl)
    rw [z3 rfl] at z1
    obtain ⟨a, z4, _, ro⟩ := p.st.own i b true c z1
    rw [z2, h2] at z4; cases z4
    exact RR.ofO ro
/-- what an iterator hands out -/
theorem yld_step {x : V} {H' : Hp} {d : D} (I : VS g Hb e σ H) (h : (H' = H ∧ Rp g Hb d x) ∨ ∃ p o, H p = none ∧ H' = upd H p o ∧ Rp g (upd Hb p o) d x) : ∃ Hb', PK g σ Hb H e Hb' H' e ∧ Rp g Hb' d x := by
  rcases h with ⟨rfl, r⟩ | ⟨p, o, hp, rfl, r⟩
  · exact ⟨Hb, .refl I, r⟩
  · exact ⟨_, .new I hp, r⟩
theorem ss_for {tg iter : Expr} {body : List Stmt} {G : TG} {k : Ik} {ts : List T} {b : List S} {pos : Pos} (Gd : Good g kk X W) (hp : PassesOwn (model X.prog X.w) X.A X.env X.xe) (hfold : ∀ x, foldedSetIterable iter X.env x = pure x)
    (hi : SI g X W tg iter (fun e => (evs ce ts e).bind (itsOf k))) (hg : SG g X tg G) (hb : SSs g X W body (exs ce b)) : SS1 g X W (.For tg iter body [] pos) (ex ce (.fors G k ts b)) := by
  intro e σ Hb H Dn I h
  rw [ex] at h
  refine tWS_of (ps_for hp Gd.calm (pi_W X tg iter) (pg_W X tg) (pss_W X body) hfold) ?_
  refine hi e σ Hb H _ I (CO.out (P := ItP g σ) h fun p e0 J Hb0 H0 pk r h1 => ?_)
  obtain ⟨ds, xs, hA, hJ⟩ := r
  have h2 := CO.unlock h1
  have I0 := pk.st.relock (RLK.lock (vws p.1) e0)
  refine ⟨fun i m σ' H' => ∃ Hb' e', SK g σ Hb0 H0 (lockE (vws p.1) e0) σ' Hb' H' e' ∧ CO g W Dn σ' Hb' H' e' (forF G (exs ce b) (p.2.drop i) e') ∧ m = p.2.length - i, ⟨_, Hb0, _, .refl I0, h2, rfl⟩, fun i m σ' H' ⟨Hb', e', sk, co, hm⟩ => ?_⟩
  have rr := its_read hA sk
  cases q : p.2[i]? with
  | none =>
    left
    have hl : p.2.length ≤ i := by rw [List.getElem?_eq_none_iff] at q; exact q
    refine ⟨hJ.stop Hb' H' i sk.st.ex rr hl, ?_⟩
    rw [List.drop_eq_nil_iff.mpr hl] at co
    exact co σ' Hb' H' (.refl sk.st)
  | some d =>
    right
    obtain ⟨g1, g2⟩ := hJ.go Hb' H' i d sk.st.ex rr q
    have hlt := (List.getElem?_eq_some_iff.mp q).1
    have hd : p.2.drop i = d :: p.2.drop (i + 1) := by
      rw [List.drop_eq_getElem_cons hlt]
      congr 1
      exact (List.getElem?_eq_some_iff.mp q).2
    rw [hd] at co
    unfold forF at co
    refine ⟨g1, fun σ2 H2 => ∃ Hb2 e2, SK g σ Hb0 H0 (lockE (vws p.1) e0) σ2 Hb2 H2 e2 ∧ CO g W Dn σ2 Hb2 H2 e2 (forF G (exs ce b) (p.2.drop (i + 1)) e2), fun σ2 H2 ⟨Hb2, e2, z1, z2⟩ => ⟨_, by omega, Hb2, e2, z1, z2, rfl⟩, fun x H'' hy => ?_⟩
    obtain ⟨Hb'', pk2, rp⟩ := yld_step sk.st (g2 x H'' hy)
    cases q2 : bindG G d e' with
    | none => rw [q2] at co; exact co.elim
    | some e1 =>
      rw [q2] at co
      dsimp only at co
      refine hg e' σ' Hb'' H'' d x e1 _ pk2.st rp q2 fun σ2 sk2 _ _ => ?_
      have skt := sk.trans (pk2.sk.trans sk2)
      have co2 := CO.shift (pk2.sk.trans sk2) co
      refine hb e1 σ2 Hb'' H'' _ sk2.st ?_
      cases q3 : exs ce b e1 with
      | nx e2 =>
        rw [q3] at co2
        exact fun σ3 Hb3 H3 sk3 => ⟨Hb3, e2, skt.trans sk3, CO.shift sk3 co2⟩
      | ct e2 =>
        rw [q3] at co2
        exact fun σ3 Hb3 H3 sk3 => ⟨Hb3, e2, skt.trans sk3, CO.shift sk3 co2⟩
      | bk e2 => rw [q3] at co2; exact co2
      | rt r e2 => rw [q3] at co2; exact co2
      | rz xd e2 => rw [q3] at co2; exact co2
      | no => rw [q3] at co2; exact co2
theorem ss_whl {c : Expr} {body : List Stmt} {tc : T} {n : Nat} {b : List S} {pos : Pos} (hp : PassesOwn (model X.prog X.w) X.A X.env X.xe) (hc : ST g X W c (evT ce tc)) (hb : SSs g X W body (exs ce b)) : SS1 g X W (.While c body [] pos) (ex ce (.whl n tc b)) := by
  intro e σ Hb H Dn I h
  rw [ex] at h
  refine tWS_of (ps_while hp (pt_W X c) (pss_W X body)) ?_
  refine ⟨fun m σ' H' => ∃ Hb' e', SK g σ Hb H e σ' Hb' H' e' ∧ CO g W Dn σ' Hb' H' e' (whF (evT ce tc) (exs ce b) m e'), ⟨n, Hb, e, .refl I, h⟩, fun m σ' H' ⟨Hb', e', sk, co⟩ => ?_⟩
  cases m with
  | zero => exact co.elim
  | succ m =>
    unfold whF at co
    refine hc e' σ' Hb' H' _ sk.st (CO.out (P := PQ) co fun t e1 x1 Hb1 H1 p1 r1 h1 => ?_)
    subst r1
    cases x1 with
    | false => exact h1 σ' Hb1 H1 (.refl p1.st)
    | true =>
      rw [if_pos rfl] at h1 ⊢
      refine ⟨fun σ2 H2 => ∃ Hb2 e2, SK g σ Hb H e σ2 Hb2 H2 e2 ∧ CO g W Dn σ2 Hb2 H2 e2 (whF (evT ce tc) (exs ce b) m e2), fun σ2 H2 z => ⟨m, by omega, z⟩, ?_⟩
      refine hb e1 σ' Hb1 H1 _ p1.st ?_
      have skt := sk.trans p1.sk
      cases q3 : exs ce b e1 with
      | nx e2 =>
        rw [q3] at h1
        exact fun σ3 Hb3 H3 sk3 => ⟨Hb3, e2, skt.trans sk3, CO.shift sk3 h1⟩
      | ct e2 =>
        rw [q3] at h1
        exact fun σ3 Hb3 H3 sk3 => ⟨Hb3, e2, skt.trans sk3, CO.shift sk3 h1⟩
      | bk e2 => rw [q3] at h1; exact h1
      | rt r e2 => rw [q3] at h1; exact h1
      | rz xd e2 => rw [q3] at h1; exact h1
      | no => rw [q3] at h1; exact h1
end
end Vd
/-! Vd17: comprehensions. -/
namespace Vd
open PySem PySem.Spec PyProof.Rows L2
section
variable {g : Gx} {kk : Nat} {X : Cx} {W : WX} {ce : CE} {σ σ1 : L2.St} {Hb H Hb1 H1 Hb0 H0 : Hp} {e e1 e0 : VE}
theorem set_none {α : Type} {e : List α} {i : Nat} (s : α) (h : e[i]? = none) : e.set i s = e := by
  apply List.set_eq_of_length_le
  rw [List.getElem?_eq_none_iff] at h; exact h
theorem setAllE_at (h : Nat → SS) (j : Nat) : ∀ (l : List Nat) (e : VE), (l.foldl (fun e i => e.set i (h i)) e)[j]? = if j ∈ l then (e[j]?).map (fun _ => h j) else e[j]?
  | [], e => by simp
  | i :: l, e => by
    rw [List.foldl_cons, setAllE_at h j l]
    by_cases z : i = j
    · subst z
      rw [if_pos (List.mem_cons_self)]
      cases q : e[i]? with
      | none => rw [set_none (h i) q, q]; split <;> rfl
      | some s =>
        rw [List.getElem?_set_self (List.getElem?_eq_some_iff.mp q).1]
        split <;> rfl
    · rw [List.getElem?_set_ne z]
      by_cases m : j ∈ l
      · rw [if_pos m, if_pos (List.mem_cons_of_mem _ m)]
      · rw [if_neg m, if_neg (by simp only [List.mem_cons, not_or]; exact ⟨fun w => z w.symm, m⟩)]
theorem setAllE_len (h : Nat → SS) : ∀ (l : List Nat) (e : VE), (l.foldl (fun e i => e.set i (h i)) e).length = e.length
  | [], e => rfl
  | i :: l, e => by rw [List.foldl_cons, setAllE_len h l]; simp
theorem wipeE_at (l : List Nat) (e : VE) (j : Nat) : (wipeE l e)[j]? = if j ∈ l then (e[j]?).map (fun _ => SS.un) else e[j]? := setAllE_at (fun _ => .un) j l e
theorem backE_at (e0 : VE) (l : List Nat) (e : VE) (j : Nat) : (backE e0 l e)[j]? = if j ∈ l then (e[j]?).map (fun _ => (e0[j]?).getD .un) else e[j]? := setAllE_at (fun i => (e0[i]?).getD .un) j l e
theorem wipeE_len (l : List Nat) (e : VE) : (wipeE l e).length = e.length := setAllE_len _ l e
theorem backE_len (e0 : VE) (l : List Nat) (e : VE) : (backE e0 l e).length = e.length := setAllE_len _ l e
theorem wipe_at (σ : L2.St) (j : Nat) : ∀ l : List Nat, (wipe σ l)[j]? = if j ∈ l then (σ[j]?).map (fun _ => none) else σ[j]?
  | [] => by simp [wipe]
  | v :: l => by
    unfold wipe
    by_cases z : v = j
    · subst z
      rw [if_pos (List.mem_cons_self)]
      cases q : σ[v]? with
      | none =>
        have : (wipe σ l)[v]? = none := by rw [wipe_at σ v l, q]; split <;> rfl
        rw [set_none _ this, this]; rfl
      | some s =>
        have hl : v < (wipe σ l).length := by rw [wipe_length]; exact (List.getElem?_eq_some_iff.mp q).1
        rw [List.getElem?_set_self hl]; rfl
    · rw [List.getElem?_set_ne z, wipe_at σ j l]
      by_cases m : j ∈ l
      · rw [if_pos m, if_pos (List.mem_cons_of_mem _ m)]
      · rw [if_neg m, if_neg (by simp only [List.mem_cons, not_or]; exact ⟨fun w => z w.symm, m⟩)]
theorem wipeE_own {l : List Nat} {j : Nat} {b k : Bool} {c : OC} (h : (wipeE l e)[j]? = some (.own b k c)) : j ∉ l ∧ e[j]? = some (.own b k c) := by
  rw [wipeE_at] at h
  split at h
  · cases q : e[j]? <;> (rw [q] at h; cases h)
  · exact ⟨by assumption, h⟩
theorem wipeE_dat {l : List Nat} {j : Nat} {d : D} (h : (wipeE l e)[j]? = some (.dat d)) : j ∉ l ∧ e[j]? = some (.dat d) := by
  rw [wipeE_at] at h
  split at h
  · cases q : e[j]? <;> (rw [q] at h; cases h)
  · exact ⟨by assumption, h⟩
/-- the frame without a block's own slots -/
theorem VS.wipe {σ' : L2.St} (I : VS g Hb e σ H) (l : List Nat) (hs : σ'.length = σ.length) (hσ : ∀ j, j ∉ l → σ'[j]? = σ[j]?) : VS g Hb (wipeE l e) σ' H ∧ ∀ a, Ow g (wipeE l e) σ' a → Ow g e σ a := by
  refine ⟨⟨by rw [wipeE_len, hs]; exact I.len, I.ex, fun j d h => ?_, fun j b k c h => ?_, fun j l' b k c b' k' c' a h h' s s' => ?_, I.tok, I.tbn⟩, fun a z => ?_⟩
  · obtain ⟨m, h⟩ := wipeE_dat h
    rw [hσ j m]; exact I.dat j d h
  · obtain ⟨m, h⟩ := wipeE_own h
    rw [hσ j m]; exact I.own j b k c h
  · obtain ⟨m, h⟩ := wipeE_own h
    obtain ⟨m', h'⟩ := wipeE_own h'
    rw [hσ j m] at s
    rw [hσ l' m'] at s'
    exact I.inj j l' b k c b' k' c' a h h' s s'
  · rcases z with z | ⟨j, b, k, c, z1, z2⟩
    · exact .inl z
    · obtain ⟨m, h⟩ := wipeE_own z1
      rw [hσ j m] at z2
      exact .inr ⟨j, b, k, c, h, z2⟩
/-- what an own object of a wiped slot is behind the block -/
theorem off_own {l own : List Nat} (I0 : VS g Hb0 e0 σ H0) (p : PK g (wipe σ own) Hb0 H0 (wipeE own (lockE l e0)) Hb H e) {i : Nat} {b k : Bool} {c : OC} {a : Addr} (m : i ∈ own) (h : e0[i]? = some (.own b k c)) (hs : σ[i]? = some (some (.ref a))) :
    Hb a = none ∧ RO g Hb H c a ∧ ¬ Ow g (wipeE own (lockE l e0)) (wipe σ own) a := by
  obtain ⟨a', e1, hb, ro⟩ := I0.own i b k c h
  rw [hs] at e1; cases e1
  obtain ⟨u, hu, n1, _⟩ := ro.there
  have no : ¬ Ow g (wipeE own (lockE l e0)) (wipe σ own) a := by
    rintro (z | ⟨j, b', k', c', z1, z2⟩)
    · obtain ⟨ps, q⟩ := (I0.tbn a z).2
      rw [q] at hu; cases hu
      exact n1 ps rfl
    · obtain ⟨mj, z1⟩ := wipeE_own z1
      obtain ⟨k0, z1⟩ := (RLK.lock l e0).own z1
      rw [wipe_at, if_neg mj] at z2
      have := I0.inj i j b k c b' k0 c' a h z1 hs z2
      subst this
      exact mj m
  refine ⟨?_, ro.mono p.vp.b fun o q => p.vp.k a o q no, no⟩
  cases q : Hb a with
  | none => rfl
  | some v =>
    rcases p.vp.n a v q with z | z | z
    · rw [hb] at z; cases z
    · rw [hu] at z; cases z
    · exact absurd z no
/-- behind the block -/
theorem PK.unblock {l own : List Nat} (I0 : VS g Hb0 e0 σ H0) (p : PK g (wipe σ own) Hb0 H0 (wipeE own (lockE l e0)) Hb H e) : PK g σ Hb0 H0 e0 Hb H (unlockE e0 l (backE e0 own e)) := by
  have len : e.length = e0.length := by rw [p.ek.len, wipeE_len, lockE_len]
  have atn : ∀ j, j ∈ own → (unlockE e0 l (backE e0 own e))[j]? = e0[j]? := fun j m => by
    rw [unlockE_at, backE_at, if_pos m]
    cases q : e0[j]? with
    | none =>
      have : e[j]? = none := by
        rw [List.getElem?_eq_none_iff] at q ⊢
        rw [len]; exact q
      rw [this]; split <;> rfl
    | some s =>
      have hj : j < e.length := by rw [len]; exact (List.getElem?_eq_some_iff.mp q).1
      rw [List.getElem?_eq_getElem hj]
      split
      · cases s <;> rfl
      · rfl
  have ato : ∀ j, j ∉ own → (unlockE e0 l (backE e0 own e))[j]? = if j ∈ l then (e[j]?).map (SS.lock ((e0[j]?).elim false SS.lk)) else e[j]? := fun j m => by
    rw [unlockE_at, backE_at, if_neg m]
  have ek : EK e0 (unlockE e0 l (backE e0 own e)) := ⟨by rw [unlockE_len, backE_len, len], fun j s h => by
    by_cases m : j ∈ own
    · exact ⟨s, by rw [atn j m]; exact h, .same s⟩
    · rw [ato j m]
      have h1 : (wipeE own (lockE l e0))[j]? = if j ∈ l then some (s.lock true) else some s := by
        rw [wipeE_at, if_neg m, lockE_at, h]; rfl
      by_cases ml : j ∈ l
      · rw [if_pos ml] at h1 ⊢
        obtain ⟨s', z1, z2⟩ := p.ek.at' j _ h1
        refine ⟨_, by rw [z1]; rfl, ?_⟩
        rw [h]
        cases s with
        | un => cases z2; exact .same _
        | dat d => cases z2; exact .same _
        | own b k c => cases z2; exact .same _
      · rw [if_neg ml] at h1 ⊢
        exact p.ek.at' j _ h1⟩
  -- own objects behind the block
  have own1 : ∀ (j : Nat) b k c, (unlockE e0 l (backE e0 own e))[j]? = some (SS.own b k c) → (j ∈ own ∧ e0[j]? = some (.own b k c)) ∨ (j ∉ own ∧ ∃ k0, e[j]? = some (.own b k0 c)) := fun j b k c h => by
    by_cases m : j ∈ own
    · rw [atn j m] at h; exact .inl ⟨m, h⟩
    · right
      refine ⟨m, ?_⟩
      have r := RLK.unlock e0 l e
      have : (unlockE e0 l e)[j]? = some (.own b k c) := by rw [unlockE_at, ← ato j m]; exact h
      exact r.own this
  have I := p.st
  have sw : ∀ j, j ∉ own → (wipe σ own)[j]? = σ[j]? := fun j m => by rw [wipe_at, if_neg m]
  have base : ∀ (j : Nat) b k c, (unlockE e0 l (backE e0 own e))[j]? = some (SS.own b k c) → ∃ k0 c0, e0[j]? = some (.own b k0 c0) := fun j b k c h => by
    obtain ⟨c0, z⟩ := ek.own h
    exact ⟨k, c0, z⟩
  have slot : ∀ (j : Nat) b k c, (unlockE e0 l (backE e0 own e))[j]? = some (SS.own b k c) → ∃ a, σ[j]? = some (some (.ref a)) ∧ Hb a = none ∧ RO g Hb H c a := fun j b k c h => by
    rcases own1 j b k c h with ⟨m, h⟩ | ⟨m, k0, h⟩
    · obtain ⟨a, e1, _, _⟩ := I0.own j b k c h
      obtain ⟨z1, z2, _⟩ := off_own I0 p m h e1
      exact ⟨a, e1, z1, z2⟩
    · obtain ⟨a, e1, z1, z2⟩ := I.own j b k0 c h
      rw [sw j m] at e1
      exact ⟨a, e1, z1, z2⟩
  have w0 := I0.relock (RLK.lock l e0)
  have wsub := (w0.wipe own (σ' := wipe σ own) (wipe_length σ own) (fun j m => sw j m)).2
  refine ⟨p.vp.widen (fun a z => by rw [← (RLK.lock l e0).ow]; exact wsub a z) (fun a z => .inl (ek.ow z)), ⟨by rw [unlockE_len, backE_len, len]; exact I0.len, I.ex, fun j d h => ?_, slot, fun j j' b k c b' k' c' a h h' s s' => ?_, I.tok, I.tbn⟩, ek⟩
  · by_cases m : j ∈ own
    · rw [atn j m] at h
      obtain ⟨v, z1, z2⟩ := I0.dat j d h
      exact ⟨v, z1, Rp.mono p.vp.b d v z2⟩
    · have : (unlockE e0 l e)[j]? = some (.dat d) := by rw [unlockE_at, ← ato j m]; exact h
      have := (RLK.unlock e0 l e).dat this
      obtain ⟨v, z1, z2⟩ := I.dat j d this
      rw [sw j m] at z1
      exact ⟨v, z1, z2⟩
  · obtain ⟨k1, c1, z1⟩ := base j b k c h
    obtain ⟨k2, c2, z2⟩ := base j' b' k' c' h'
    exact I0.inj j j' b k1 c1 b' k2 c2 a z1 z2 s s'
/-- the iterables, read in the block -/
theorem its_read_lc {own : List Nat} {vs : List Val} {ds : List D} {xs : List V} (I0 : VS g Hb0 e0 σ H0) (h : ItAs g Hb0 e0 σ vs ds xs) (p : PK g (wipe σ own) Hb0 H0 (wipeE own (lockE (vws vs) e0)) Hb H e) : RRs g Hb H ds xs := by
  refine itas_read h fun v d x a m => ?_
  rcases a with a | ⟨i, b, k, c, rfl, h1, rfl, h2⟩
  · exact RR.of p.st.ex (Rp.mono p.vp.b d x a)
  · by_cases mo : i ∈ own
    · obtain ⟨a, z1, _, _⟩ := I0.own i b k c h1
      rw [h2] at z1; cases z1
      exact RR.ofO (off_own I0 p mo h1 h2).2.1
    · have h3 : (wipeE own (lockE (vws vs) e0))[i]? = some (.own b true c) := by rw [wipeE_at, if_neg mo, lockE_at, if_pos (mem_vws m), h1]; rfl
      obtain ⟨s', z1, z2⟩ := p.ek.at' i _ h3
      cases z2
      obtain ⟨a, z4, _, ro⟩ := p.st.own i b true c z1
      rw [wipe_at, if_neg mo, h2] at z4; cases z4
      exact RR.ofO ro

/-- the contexts of a comprehension's block -/
def InB (X : Cx) (scope : Scope) (P : Cx → Prop) : Prop := ∀ (s : Shared) (H : Hp) (C : Addr) (cl : List (Str × Addr)) (fp : List Addr), P (X.blk s H scope (compEnvC scope cl C X.env) fp)
def W0 : WX := fun _ _ _ _ => False
def sTs (g : Gx) (X : Cx) (ifs : List Expr) (m : VE → R Bool) : Prop := ∀ e σ Hb H (Q : Bool → Hp → Prop), VS g Hb e σ H → CA PQ g W0 σ Hb H e (m e) Q → ∀ pins s, Inv X pins σ H s →
    wpAny (model X.prog X.w) X.A (forIn ifs true fun c r => if r = true then do let ok ← isTrue c X.env (eval c X.env); pure (ForInStep.yield ok) else pure (ForInStep.yield r)) (TP X pins σ Q) X.xe s
theorem sTs_nil : sTs g X [] (evc ce none) := by
  intro e σ Hb H Q I h pins s J
  rw [evc] at h
  exact pts_nil.run pins s σ H Q J (h _ _ _ (.refl I) rfl)
theorem sTs_one {c : Expr} {tc : T} (hc : ST g X W0 c (evT ce tc)) : sTs g X [c] (evc ce (some tc)) := by
  intro e σ Hb H Q I h pins s J
  rw [evc] at h
  exact (pts_one (pt_W X c)).run pins s σ H Q J (hc e σ Hb H Q I h)
/-- one turn of a comprehension -/
def lcT (ce : CE) (G : TG) (c : Option T) (t : T) (own : List Nat) : D → VE → R (Option D) := fun d e => (ofO (bindG G d e) e).bind fun e' _ => (evc ce c e').bind fun b e => if b = true then (ev ce t e).bind fun v e => (ofP (fz e v)).bind fun d e => .ok (some d) (wipeE own e) else .ok none (wipeE own e)
theorem calm_ok {α : Type} {r : R α} {γ δ : Type} {P : Hp → Hp → Hp → VE → γ → δ → Prop} {f : α → VE → R γ} {Q : δ → Hp → Prop} (h : CA P g W σ Hb H e (r.calm.bind f) Q) : ∃ a e', r = .ok a e' ∧ CA P g W σ Hb H e (f a e') Q := by
  cases r with
  | ok a e' => exact ⟨a, e', rfl, h⟩
  | rz x e' => exact h.elim
  | no => exact h.elim
theorem bind_ok {α β : Type} {r : R α} {f : α → VE → R β} {b : β} {e' : VE} (h : r.bind f = .ok b e') : ∃ a e1, r = .ok a e1 ∧ f a e1 = .ok b e' := by
  cases r with
  | ok a e1 => exact ⟨a, e1, rfl, h⟩
  | rz x e1 => cases h
  | no => cases h
theorem lcF_ok {f : D → VE → R (Option D)} {d : D} {l : List D} {r : List D} {e' : VE} (h : lcF f (d :: l) e = .ok r e') : ∃ o e1 r1, f d e = .ok o e1 ∧ lcF f l e1 = .ok r1 e' ∧ r = o.elim r1 (· :: r1) := by
  unfold lcF at h
  obtain ⟨o, e1, z1, h⟩ := bind_ok h
  obtain ⟨r1, e2, z2, h⟩ := bind_ok h
  cases h
  exact ⟨o, e1, r1, z1, z2, rfl⟩
theorem lcF_len {f : D → VE → R (Option D)} : ∀ {l : List D} {e : VE} {r : List D} {e' : VE}, lcF f l e = .ok r e' → r.length ≤ l.length
  | [], e, r, e', h => by unfold lcF at h; cases h; exact Nat.le_refl _
  | d :: l, e, r, e', h => by
    obtain ⟨o, e1, r1, _, z, rfl⟩ := lcF_ok h
    have := lcF_len z
    cases o with
    | none => show r1.length ≤ _; rw [List.length_cons]; omega
    | some d' => show (d' :: r1).length ≤ _; rw [List.length_cons, List.length_cons]; omega
/-- the loop of a comprehension -/
theorem lc_run {tg iter : Expr} {elt : Expr} {ifs : List Expr} {scope : Scope} {G : TG} {k : Ik} {ts : List T} {c : Option T} {t : T} {own : List Nat} (hi : SI g X W tg iter (fun e => (evs ce ts e).bind (itsOf k)))
    (hg : InB X scope fun X' => SG g X' tg G) (hsl : ∀ j ∈ slots G, j ∈ own) (hc : InB X scope fun X' => sTs g X' ifs (evc ce c)) (ht : InB X scope fun X' => SE g X' W0 elt (ev ce t)) {Q : VK} (I : VS g Hb e σ H)
    (h : CA (PV g σ) g W σ Hb H e (ev ce (.lc t G k ts c own) e) Q) :
    tLc (tWI X tg iter) (fun x σ H Q => ∀ (s : Shared) (H0 : Hp) (C : Addr) (cl : List (Str × Addr)) (fp : List Addr), gW (X.blk s H0 scope (compEnvC scope cl C X.env) fp) tg x σ H Q)
      (fun σ H Q => ∀ (s : Shared) (H0 : Hp) (C : Addr) (cl : List (Str × Addr)) (fp : List Addr) pins s', Inv (X.blk s H0 scope (compEnvC scope cl C X.env) fp) pins σ H s' →
        wpAny (model X.prog X.w) X.A (forIn ifs true fun c r => if r = true then do let ok ← isTrue c (compEnvC scope cl C X.env) (eval c (compEnvC scope cl C X.env)); pure (ForInStep.yield ok) else pure (ForInStep.yield r)) (TP (X.blk s H0 scope (compEnvC scope cl C X.env) fp) pins σ Q) (fun _ _ => False) s')
      (fun σ H Q => ∀ (s : Shared) (H0 : Hp) (C : Addr) (cl : List (Str × Addr)) (fp : List Addr), tW (X.blk s H0 scope (compEnvC scope cl C X.env) fp) elt σ H Q) own σ H Q := by
  rw [ev] at h
  refine hi e σ Hb H _ I (CA.bind early_V h fun p e0 J Hb0 H0 pk r h1 => ?_)
  obtain ⟨ds, xs, hA, hJ⟩ := r
  have I0 := pk.st
  obtain ⟨res, e9, q9, h2⟩ := calm_ok h1
  have q9' : lcF (lcT ce G c t own) p.2 (wipeE own (lockE (vws p.1) e0)) = .ok res e9 := q9
  split at h2
  · rename_i hlen
    have w0 := (I0.relock (RLK.lock (vws p.1) e0)).wipe own (σ' := wipe σ own) (wipe_length σ own) (fun j m => by rw [wipe_at, if_neg m])
    intro Dl hD
    have noD := not_ow w0.1 hD
    have pt := PK.temp (o := .lst []) w0.1 hD
    refine ⟨fun i m H' => ∃ Hb' e' acc ad rest, PK g (wipe σ own) Hb0 H0 (wipeE own (lockE (vws p.1) e0)) Hb' H' e' ∧ H' Dl = some (.lst acc) ∧ Hb' Dl = none ∧ Rps g Hb' ad acc ∧ lcF (lcT ce G c t own) (p.2.drop i) e' = .ok rest e9 ∧ res = ad ++ rest ∧ m = p.2.length - i ∧ (∀ j ∈ own, e'[j]? = none ∨ e'[j]? = some .un),
      ⟨_, Hb0, _, [], [], res, pt, upd_same, I0.ex.back hD, rfl, q9', rfl, rfl, fun j m => ?_⟩, fun i m H' ⟨Hb', e', acc, ad, rest, pk', hDl, hDb, hacc, hrest, hres, hm, hun⟩ => ?_⟩
    · rw [wipeE_at, if_pos m]
      cases (lockE (vws p.1) e0)[j]? with
      | none => exact .inl rfl
      | some s => exact .inr rfl
    have rr := its_read_lc I0 hA pk'
    have noD' : ¬ Ow g e' (wipe σ own) Dl := fun z => noD (pk'.ek.ow z)
    cases q : p.2[i]? with
    | none =>
      left
      have hl : p.2.length ≤ i := by rw [List.getElem?_eq_none_iff] at q; exact q
      refine ⟨hJ.stop Hb' H' i pk'.st.ex rr hl, ?_⟩
      rw [List.drop_eq_nil_iff.mpr hl] at hrest
      unfold lcF at hrest
      cases hrest
      rw [List.append_nil] at hres
      subst hres
      have pf := PK.unblock I0 pk'
      refine h2 _ Hb' H' pf ⟨Dl, rfl, hD, hDb, ⟨acc, hDl, hacc⟩, fun z => ?_⟩
      have z1 := pf.ek.ow z
      obtain ⟨u, hu⟩ := Ow.there I0 z1
      rw [hD] at hu; cases hu
    | some d =>
      right
      obtain ⟨g1, g2⟩ := hJ.go Hb' H' i d pk'.st.ex rr q
      have hlt := (List.getElem?_eq_some_iff.mp q).1
      have hd : p.2.drop i = d :: p.2.drop (i + 1) := by
        rw [List.drop_eq_getElem_cons hlt]
        congr 1
        exact (List.getElem?_eq_some_iff.mp q).2
      rw [hd] at hrest
      obtain ⟨o, e3, r1, qf, qr, hr⟩ := lcF_ok hrest
      -- the turn
      unfold lcT at qf
      obtain ⟨e1, e1', z1, qf1⟩ := bind_ok (r := ofO (bindG G d e') e') qf
      clear qf
      have z1' : bindG G d e' = some e1 ∧ e1' = e' := by
        cases q2 : bindG G d e' with
        | none => rw [q2] at z1; cases z1
        | some y => rw [q2] at z1; cases z1; exact ⟨rfl, rfl⟩
      obtain ⟨z1', rfl⟩ := z1'
      obtain ⟨b, e2, z2, qf⟩ := bind_ok (r := evc ce c e1) qf1
      clear qf1
      -- behind the turn, the next one
      have fin : ∀ (σ2 : L2.St) (Hb3 H3 Hb4 H4 : Hp) (e4 : VE) (acc' : List V) (ad' : List D) (rest' : List D), PK g (wipe σ own) Hb' H' e1' Hb3 H3 e1' → SK g (wipe σ own) Hb3 H3 e1' σ2 Hb3 H3 e1 → (∀ j : Nat, j ∉ own → σ2[j]? = (wipe σ own)[j]?) → (∀ j : Nat, j ∉ own → e1[j]? = e1'[j]?) →
          PK g σ2 Hb3 H3 e1 Hb4 H4 e4 → PK g (wipe σ own) Hb' H' e1' Hb4 H4 (wipeE own e4) := by
        intro σ2 Hb3 H3 Hb4 H4 e4 _ _ _ p1 s1 hσ he p2
        have l1 : e1.length = e1'.length := s1.ek.len
        obtain ⟨w1, w2⟩ := p2.st.wipe own (σ' := wipe σ own) s1.ek.slen.symm (fun j m => (hσ j m).symm)
        refine p1.trans ⟨(s1.vp.trans p2.vp).trans ⟨.refl _, fun _ _ q _ => q, fun _ _ q => .inl q, fun a z => .inl (w2 a z), fun _ q => q⟩, w1, ⟨by rw [wipeE_len, p2.ek.len, l1], fun j s hj => ?_⟩⟩
        by_cases m : j ∈ own
        · have : s = .un := by
            rcases hun j m with z | z
            · rw [hj] at z; cases z
            · rw [hj] at z; cases z; rfl
          subst this
          refine ⟨.un, ?_, .same _⟩
          rw [wipeE_at, if_pos m]
          have hj' : j < e4.length := by rw [p2.ek.len, l1]; exact (List.getElem?_eq_some_iff.mp hj).1
          rw [List.getElem?_eq_getElem hj']; rfl
        · obtain ⟨s', y1, y2⟩ := p2.ek.at' j s (by rw [he j m]; exact hj)
          exact ⟨s', by rw [wipeE_at, if_neg m]; exact y1, y2⟩
      have wun : ∀ e4 : VE, ∀ j ∈ own, (wipeE own e4)[j]? = none ∨ (wipeE own e4)[j]? = some .un := fun e4 j m => by
        rw [wipeE_at, if_pos m]
        cases e4[j]? with
        | none => exact .inl rfl
        | some s => exact .inr rfl
      have dfree : ∀ {Hb4 H4 : Hp} {e4 : VE}, PK g (wipe σ own) Hb' H' e1' Hb4 H4 e4 → Hb4 Dl = none ∧ H4 Dl = some (.lst acc) := fun {Hb4 H4 e4} p => by
        refine ⟨?_, p.vp.k Dl _ hDl noD'⟩
        cases y : Hb4 Dl with
        | none => rfl
        | some v =>
          rcases p.vp.n Dl v y with y | y | y
          · rw [hDb] at y; cases y
          · rw [hDl] at y; cases y
          · exact absurd y noD'
      refine ⟨g1, fun H2 => ∃ Hb2 e2 acc2 ad2 rest2, PK g (wipe σ own) Hb0 H0 (wipeE own (lockE (vws p.1) e0)) Hb2 H2 e2 ∧ H2 Dl = some (.lst acc2) ∧ Hb2 Dl = none ∧ Rps g Hb2 ad2 acc2 ∧ lcF (lcT ce G c t own) (p.2.drop (i + 1)) e2 = .ok rest2 e9 ∧ res = ad2 ++ rest2 ∧ (∀ j ∈ own, e2[j]? = none ∨ e2[j]? = some .un),
        fun H2 ⟨Hb2, e2, acc2, ad2, rest2, y1, y2, y3, y4, y5, y6, y7⟩ => ⟨_, by omega, Hb2, e2, acc2, ad2, rest2, y1, y2, y3, y4, y5, y6, rfl, y7⟩, fun x H'' hy => ?_⟩
      obtain ⟨Hb3, pk2, rp⟩ := yld_step pk'.st (g2 x H'' hy)
      -- the targets
      intro s5 H5 C5 cl5 fp5
      refine hg s5 H5 C5 cl5 fp5 e1' (wipe σ own) Hb3 H'' d x e1 _ pk2.st rp z1' fun σ2 sk2 hσ2 he2 => ?_
      have hσ : ∀ j : Nat, j ∉ own → σ2[j]? = (wipe σ own)[j]? := fun j m => hσ2 j fun z => m (hsl j z)
      have he : ∀ j : Nat, j ∉ own → e1[j]? = e1'[j]? := fun j m => he2 j fun z => m (hsl j z)
      refine ⟨?_, ?_⟩
      · apply List.ext_getElem?
        intro j
        rw [wipe_at, wipe_at]
        by_cases m : j ∈ own
        · rw [if_pos m, if_pos m]
          have hl : σ2.length = σ.length := by rw [sk2.ek.slen, wipe_length]
          cases y : σ[j]? with
          | none =>
            have : σ2[j]? = none := by
              rw [List.getElem?_eq_none_iff] at y ⊢
              rw [hl]; exact y
            rw [this]
          | some v =>
            have : j < σ2.length := by rw [hl]; exact (List.getElem?_eq_some_iff.mp y).1
            rw [List.getElem?_eq_getElem this]; rfl
        · rw [if_neg m, if_neg m, hσ j m, wipe_at, if_neg m]
      -- the test
      intro s6 H6 C6 cl6 fp6 pins6 s6' J6
      refine hc s6 H6 C6 cl6 fp6 e1 σ2 Hb3 H'' _ sk2.st ?_ pins6 s6' J6
      rw [z2]
      intro t6 Hb6 H6 pk6 et6
      subst et6
      cases t6 with
      | false =>
        rw [if_neg (by decide)] at qf ⊢
        cases qf
        have pf := fin σ2 Hb3 H'' Hb6 H6 e2 acc ad r1 pk2 sk2 hσ he pk6
        obtain ⟨f1, f2⟩ := dfree pf
        exact ⟨Hb6, _, acc, ad, r1, pk'.trans pf, f2, f1, Rps.mono pf.vp.b _ _ hacc, qr, by rw [hres, hr]; rfl, wun e2⟩
      | true =>
        rw [if_pos rfl] at qf ⊢
        obtain ⟨v, e7, z7, qf2⟩ := bind_ok (r := ev ce t e2) qf
        -- the element
        intro s7 H7 C7 cl7 fp7
        refine ht s7 H7 C7 cl7 fp7 e2 σ2 Hb6 H6 _ pk6.st ?_
        rw [z7]
        intro y Hb8 H8 pk8 r8
        obtain ⟨d9, e10, z9, qf3⟩ := bind_ok (r := ofP (fz e7 v)) qf2
        cases qf3
        have z9' : fz e7 v = some (d9, e10) := by
          cases w : fz e7 v with
          | none => rw [w] at z9; cases z9
          | some pr => rw [w] at z9; cases z9; rfl
        obtain ⟨Hb10, p10, b10, k10⟩ := RVs.keep (vs := [v]) (xs := [y]) pk8 ⟨y, [], rfl, r8, rfl, fun _ _ j c' z => by simp at z⟩
        obtain ⟨y', rr', ey, k10, er⟩ := k10
        cases er; cases ey
        obtain ⟨Hb11, p11, b11, _, s11⟩ := fz_ok p10 k10 z9'
        have pf := fin σ2 Hb3 H'' Hb11 H8 e10 acc ad r1 pk2 sk2 hσ he (pk6.trans p11)
        obtain ⟨f1, f2⟩ := dfree pf
        have hlen' : res.length ≤ sizeLine := by rw [← line_eq]; exact hlen
        refine ⟨acc, f2, ?_, Hb11, wipeE own e10, acc ++ [y], ad ++ [d9], r1, ?_, upd_same, f1, (Rps.mono pf.vp.b _ _ hacc).app (.one s11), qr, by rw [hres, hr]; simp, wun e10⟩
        · rw [hacc.length]
          rw [hres, hr] at hlen'
          have : (ad ++ (d9 :: r1)).length ≤ sizeLine := hlen'
          rw [List.length_append, List.length_cons] at this
          omega
        · refine (pk'.trans pf).retemp hD f2 (fun _ z => by cases z) (fun _ z => by cases z) (fun z => noD' (pf.ek.ow z)) f1
  · exact h2.elim
end
end Vd
namespace Vd
open PySem PySem.Spec PyProof.Rows L2
section
variable {g : Gx} {kk : Nat} {X : Cx} {W : WX} {ce : CE}
theorem se_lc {tg iter elt : Expr} {ifs : List Expr} {scope : Scope} {pos : Pos} {Gt : TG} {k : Ik} {ts : List T} {c : Option T} {t : T} {own : List (Str × Nat)} (Gd : Good g kk X W) (hfold : ∀ x, foldedSetIterable iter X.env x = pure x) (ok : BlkOk X.N X.env.scope scope own)
    (hi : SI g X W tg iter (fun e => (evs ce ts e).bind (itsOf k))) (hg : InB X scope fun X' => SG g X' tg Gt) (hsl : ∀ j ∈ slots Gt, j ∈ own.map (·.2)) (hc : InB X scope fun X' => sTs g X' ifs (evc ce c)) (ht : InB X scope fun X' => SE g X' W0 elt (ev ce t)) :
    SE g X W (.ListComp elt [⟨tg, iter, ifs, 0⟩] scope pos) (ev ce (.lc t Gt k ts c (own.map (·.2)))) := by
  intro e σ Hb H Q I h
  refine tW_of (pe_lc Gd.calm Gd.nd (pi_W X tg iter) ok ?_ ?_ ?_ hfold) (lc_run hi hg hsl hc ht I h)
  · exact fun s H0 C cl fp => ⟨fun pins s' σ H v u Q J r h => h s H0 C cl fp pins s' u J r⟩
  · exact fun s H0 C cl fp => ⟨fun pins s' σ H Q J h => h s H0 C cl fp pins s' J⟩
  · exact fun s H0 C cl fp => ⟨fun pins s' σ H Q J h => h s H0 C cl fp pins s' J⟩
theorem ss_setlc {tg iter elt : Expr} {ifs : List Expr} {scope : Scope} {pos spos py : Pos} {y : Str} {i : Nat} {Gt : TG} {k : Ik} {ts : List T} {c : Option T} {t : T} {own : List (Str × Nat)} (Gd : Good g kk X W) (hfold : ∀ x, foldedSetIterable iter X.env x = pure x) (ok : BlkOk X.N X.env.scope scope own)
    (hi : SI g X W tg iter (fun e => (evs ce ts e).bind (itsOf k))) (hg : InB X scope fun X' => SG g X' tg Gt) (hsl : ∀ j ∈ slots Gt, j ∈ own.map (·.2)) (hc : InB X scope fun X' => sTs g X' ifs (evc ce c)) (ht : InB X scope fun X' => SE g X' W0 elt (ev ce t))
    (hy : X.N[i]? = some y) (hyl : Loc X.env.scope y) (hf : X.fn y = true ∨ X.env.scope.names.lookup y = some .local) (hkd : X.env.scope.kind = .function) : SS1 g X W (.Assign [.Name y py] (.ListComp elt [⟨tg, iter, ifs, 0⟩] scope pos) spos) (ex ce (.set i (.lc t Gt k ts c (own.map (·.2))))) := by
  have hb : X.env.blockKind = .function := by unfold Env.blockKind; rw [hkd]; rfl
  have key : ∀ (b : Bool), swapsWith (.ListComp elt [⟨tg, iter, ifs, 0⟩] scope pos) (some (.Name y py)) spos.line X.env = pure b → (b = true → X.env.scope.names.lookup y = some .local) → SS1 g X W (.Assign [.Name y py] (.ListComp elt [⟨tg, iter, ifs, 0⟩] scope pos) spos) (ex ce (.set i (.lc t Gt k ts c (own.map (·.2))))) := by
    intro b hsw hl
    cases b with
    | false => exact ss_setG (ps_set Gd.nd hy hyl (pe_W X _) hsw hf) (se_lc Gd hfold ok hi hg hsl hc ht)
    | true =>
      refine ss_setG (ps_setLc Gd.calm Gd.nd hy (hl rfl) hsw (pi_W X tg iter) ok ?_ ?_ ?_ hfold) (fun e σ Hb H Q I h => lc_run hi hg hsl hc ht I h)
      · exact fun s H0 C cl fp => ⟨fun pins s' σ H v u Q J r h => h s H0 C cl fp pins s' u J r⟩
      · exact fun s H0 C cl fp => ⟨fun pins s' σ H Q J h => h s H0 C cl fp pins s' J⟩
      · exact fun s H0 C cl fp => ⟨fun pins s' σ H Q J h => h s H0 C cl fp pins s' J⟩
  have hsw : swapsWith (.ListComp elt [⟨tg, iter, ifs, 0⟩] scope pos) (some (.Name y py)) spos.line X.env = pure (X.env.blockKind == .function && X.env.kindOf y == some .local && py.line == (Expr.ListComp elt [⟨tg, iter, ifs, 0⟩] scope pos).pos.line && !(scope.names.any fun (n, k) => n == y && (k == .local || k == .cell))) := by
    unfold swapsWith; rfl
  refine key _ hsw fun hz => ?_
  simp only [Bool.and_eq_true] at hz
  have h1 := hz.1.1.2
  have h2 : X.env.kindOf y = some .local := by
    cases q : X.env.kindOf y with
    | none => rw [q] at h1; cases h1
    | some kd => rw [q] at h1; cases kd <;> first | rfl | (cases h1; done)
  exact h2
end
end Vd
/-! Vd18: what a text says, checked; sound. -/
namespace Vd
open PySem PySem.Spec PyProof.Rows L2
/-- what is known of a def's text: its slots, the scope at the place, cells that may be stored to, what the module's names stand for -/
structure Cf where
  N : List Str
  sc : Scope
  cl : List Str
  fs : List (Str × Nat × Nat)
  cs : List (Str × Nat)
  bs : List Str
def cellsOf (sc : Scope) : List Str := (sc.names.filter fun p => decide (p.2 = .cell)).map (·.1)
def Cf.blk (cf : Cf) (scope : Scope) : Cf := { cf with sc := relS scope cf.sc, cl := cellsOf scope }
structure Fit (cf : Cf) (g : Gx) (ce : CE) (kk : Nat) (X : Cx) : Prop where
  N : X.N = cf.N
  sc : X.env.scope = cf.sc
  kind : cf.sc.kind = .function
  fn : ∀ x ∈ cf.cl, cf.sc.names.lookup x = some .cell → X.fn x = true
  fs : ∀ x f n, (x, f, n) ∈ cf.fs → ∃ k addr fd ps, FnOk X.prog X.w X.K X.mg X.base (L2.CX X.prog X.w) k addr fd ps (spD g ps.length (ce.fn f)) ∧ k ≤ kk ∧ X.mg x = some (.ref addr) ∧ PySem.W.keepIn X.K (.ref addr) = true ∧ Binds X.K fd ps [] ∧ ps.length = n
  cs : ∀ x c, (x, c) ∈ cf.cs → ∃ u v, X.mg x = some u ∧ RelV v u ∧ ∀ Hb, Rp g Hb (ce.con c) v
  bs : ∀ x ∈ cf.bs, X.mg x = none
def visB (sc : Scope) (x : Str) : Bool := decide (sc.names.lookup x = some .local) || decide (sc.names.lookup x = some .cell) || decide (sc.names.lookup x = some .free)
def locB (cf : Cf) (x : Str) : Bool := decide (cf.sc.names.lookup x = some .local) || (decide (cf.sc.names.lookup x = some .cell) && decide (x ∈ cf.cl))
def glB (cf : Cf) (x : Str) : Bool := decide (cf.sc.names.lookup x = some .globalImplicit)
def plainN (x : Str) : Bool := decide (x ≠ "__debug__") && decide (x ≠ "__classdict__") && decide (x ≠ "__name__")
def bltB (cf : Cf) (x : Str) : Bool := glB cf x && decide (x ∈ cf.bs)
def nmB : B1 → Str
  | .len => "len"
  | .int => "int"
  | .str => "str"
  | .bool => "bool"
  | .tuple => "tuple"
  | .list => "list"
  | .all => "all"
  | .any => "any"
  | .sum => "sum"
  | .ord => "ord"
  | .chr => "chr"
  | .repr => "repr"
  | .setlen => "set"
  | .max => "max"
  | .min => "min"
  | .abs => "abs"
def o2B : O2 → Operator → Bool
  | .add, .Add => true
  | .sub, .Sub => true
  | .mul, .Mult => true
  | .fdiv, .FloorDiv => true
  | .mod, .Mod => true
  | .pow, .Pow => true
  | _, _ => false
def cqB : Cq → CmpOp → Bool
  | .eq, .Eq => true
  | .ne, .NotEq => true
  | .lt, .Lt => true
  | .le, .LtE => true
  | .gt, .Gt => true
  | .ge, .GtE => true
  | .isin, .In => true
  | .notin, .NotIn => true
  | .is, .Is => true
  | .isnt, .IsNot => true
  | _, _ => false
theorem o2B_eq {o : O2} {p : Operator} (h : o2B o p = true) : p = o2 o := by cases o <;> cases p <;> first | rfl | (cases h; done)
theorem cqB_eq {o : Cq} {p : CmpOp} (h : cqB o p = true) : p = cq o := by cases o <;> cases p <;> first | rfl | (cases h; done)
def keyB : DK → Option Expr → Bool
  | .inl i, some (.Constant (.int j) _ _) => decide (i = j)
  | .inr l, some (.Constant (.str s) _ _) => decide (sT l = s)
  | _, _ => false
def keysB : List DK → List (Option Expr) → Bool
  | [], [] => true
  | k :: l, e :: m => keyB k e && keysB l m
  | _, _ => false
def tyB (cf : Cf) (t : Ty) : Expr → Bool
  | .Name x _ => decide (x = Str.ofString (tyN t)) && bltB cf x && (match t with | .own _ => false | _ => true)
  | _ => false
def tysB (cf : Cf) : List Ty → List Expr → Bool
  | [], [] => true
  | t :: l, e :: m => tyB cf t e && tysB cf l m
  | _, _ => false
/-- the arguments of what is walked -/
def iterB (cf : Cf) : Ik → Expr → Expr → Option (List Expr)
  | .seq, _, .Set _ _ _ => none
  | .seq, _, e => some [e]
  | .rng, _, .Call (.Name f _) [a] [] _ => if f = "range" ∧ bltB cf f = true then some [a] else none
  | .rng, _, .Call (.Name f _) [a, b] [] _ => if f = "range" ∧ bltB cf f = true then some [a, b] else none
  | .enum, .Tuple _ _ _, .Call (.Name f _) [a] [] _ => if f = "enumerate" ∧ bltB cf f = true then some [a] else none
  | .zip, .Tuple _ _ _, .Call (.Name f _) [a, b] [] _ => if f = "zip" ∧ bltB cf f = true then some [a, b] else none
  | _, _, _ => none
mutual
def tgB (cf : Cf) : TG → Expr → Bool
  | .nm i, .Name x _ => decide (cf.N[i]? = some x) && locB cf x
  | .tp l, .Tuple es _ _ => tgsB cf l es
  | _, _ => false
def tgsB (cf : Cf) : List TG → List Expr → Bool
  | [], [] => true
  | t :: l, e :: m => noStar e && tgB cf t e && tgsB cf l m
  | _, _ => false
end
def notB : Expr → Bool
  | .UnaryOp .Not _ _ => false
  | .BoolOp _ _ _ => false
  | .IfExp _ _ _ _ => false
  | .Compare _ _ _ _ => false
  | _ => true
mutual
def chk : T → Bool → Cf → Expr → Bool
  | .var i, _, cf, .Name x _ => decide (cf.N[i]? = some x) && visB cf.sc x && plainN x
  | .int i, _, _, .Constant (.int j) _ _ => decide (i = j)
  | .bl b, _, _, .Constant (.bool c) _ _ => decide (b = c)
  | .non, _, _, .Constant .none _ _ => true
  | .str l, _, _, .Constant (.str s) _ _ => decide (sT l = s) && decide (l.length ≤ line)
  | .con k, _, cf, .Name x _ => glB cf x && decide ((x, k) ∈ cf.cs) && plainN x
  | .bin o a b, _, cf, .BinOp ea op eb _ => o2B o op && chk a false cf ea && chk b false cf eb
  | .cmp o a b, _, cf, .Compare ea [op] [eb] _ => cqB o op && !(behindInMarks op eb) && chk a false cf ea && chk b false cf eb
  | .chn o p a b c, _, cf, .Compare ea [op, pp] [eb, ec] _ => cqB o op && cqB p pp && !(lastMarks [op, pp] [eb, ec]) && chk a false cf ea && chk b false cf eb && chk c false cf ec
  | .and a b, m, cf, .BoolOp .And (ea :: eb :: rest) p => chk a m cf ea && chk b m cf (match rest with | [] => eb | _ => .BoolOp .And (eb :: rest) p)
  | .or a b, m, cf, .BoolOp .Or (ea :: eb :: rest) p => chk a m cf ea && chk b m cf (match rest with | [] => eb | _ => .BoolOp .Or (eb :: rest) p)
  | .not a, m, cf, .UnaryOp .Not ea _ => chk a m cf ea
  | .neg a, _, cf, .UnaryOp .USub ea _ => chk a false cf ea
  | .ite c a b, m, cf, .IfExp ec ea eb _ => !m && chk c true cf ec && chk a false cf ea && chk b false cf eb
  | .tup l, _, cf, .Tuple es _ _ => chkA l cf es
  | .lst l, _, cf, .List es _ => chkA l cf es
  | .dct ks l, _, cf, .Dict keys vals _ => keysB ks keys && decide (ks.length = vals.length) && decide (vals.length ≤ 15) && chkA l cf vals
  | .ix a b, _, cf, .Subscript ea eb _ => noSlice eb && chk a false cf ea && chk b false cf eb
  | .sl a lo hi, _, cf, .Subscript ea (.Slice elo ehi none _) _ => chk a false cf ea && chkO lo cf elo && chkO hi cf ehi
  | .call f l, _, cf, .Call (.Name x _) es [] _ => glB cf x && decide ((x, f, l.length) ∈ cf.fs) && plainN x && chkA l cf es
  | .bi b l, _, cf, .Call (.Name x _) es [] _ => match b with
    | .setlen => decide (x = "len") && bltB cf x && (match es with
      | [.Call (.Name y _) as [] _] => decide (y = "set") && bltB cf y && decide (l.length = 1) && chkA l cf as
      | _ => false)
    | b => decide (x = nmB b) && bltB cf x && !es.isEmpty && chkA l cf es
  | .mt m a l, _, cf, .Call (.Attribute ea nm ap) es [] cp => decide (nm = mNm m) && noCall ea && (ap.endLine == cp.line) && chk a false cf ea && chkA l cf es && (match m, l with
    | .append, [_] => true
    | .extend, [_] => true
    | .pop, [] => true
    | _, _ => false)
  | .isi a ts, _, cf, .Call (.Name x _) [ea, et] [] _ => decide (x = "isinstance") && bltB cf x && noStar ea && chk a false cf ea && (match ts, et with
    | [t], .Name y p => tyB cf t (.Name y p)
    | ts, .Tuple es _ _ => tysB cf ts es && !ts.isEmpty && decide (ts.length ≤ 100)
    | _, _ => false)
  | .lc t G k l c own, _, cf, .ListComp elt [⟨tg, iter, ifs, asy⟩] scope _ => decide (asy = 0) && blkC cf.N cf.sc scope (own.map fun i => (cf.N.getD i "", i)) && (slots G).all (fun j => decide (j ∈ own)) && tgB (cf.blk scope) G tg && chk t false (cf.blk scope) elt && (match iterB cf k tg iter with
      | some es => chkA l cf es
      | none => false) && (match ifs with
      | [] => c.isNone
      | [ec] => chkO' c (cf.blk scope) ec
      | _ => false)
  | _, _, _, _ => false
def chkA : List T → Cf → List Expr → Bool
  | [], _, [] => true
  | t :: l, cf, e :: m => noStar e && chk t false cf e && chkA l cf m
  | _, _, _ => false
def chkO : Option T → Cf → Option Expr → Bool
  | none, _, none => true
  | some t, cf, some e => chk t false cf e
  | _, _, _ => false
def chkO' : Option T → Cf → Expr → Bool
  | none, _, _ => false
  | some t, cf, e => chk t true cf e
end
def swB (cf : Cf) (x y : Str) (px py : Pos) (vs : List Expr) : Bool :=
  decide (cf.sc.names.lookup x = some .local) && decide (cf.sc.names.lookup y = some .local) && (px.line == py.line) && decide (x ≠ y) && !(vs.all (foldedForSure 8)) && !(vs.all (constantsAlone 8))
def parP : Stmt → Option (Str × Pos × Str × Pos × Expr × Expr)
  | .Assign [.Tuple [.Name x px, .Name y py] _ _] (.Tuple [a, b] _ _) _ => some (x, px, y, py, a, b)
  | _ => none
theorem parP_eq {st : Stmt} {q : Str × Pos × Str × Pos × Expr × Expr} (h : parP st = some q) : ∃ kt pt k2 p2 p, st = .Assign [.Tuple [.Name q.1 q.2.1, .Name q.2.2.1 q.2.2.2.1] kt pt] (.Tuple [q.2.2.2.2.1, q.2.2.2.2.2] k2 p2) p := by
  unfold parP at h
  split at h
  · cases h; exact ⟨_, _, _, _, _, rfl⟩
  · cases h
/-- a, b = e: no swapped stores -/
def unB : List Expr → Expr → Bool
  | _, .Tuple vs _ _ => vs.all (foldedForSure 8) && false
  | _, _ => true
mutual
def chkS : S → Cf → Stmt → Bool
  | .set i t, cf, .Assign [.Name x _] a _ => decide (cf.N[i]? = some x) && locB cf x && chk t false cf a && (match t with
    | .lc _ _ _ _ _ _ => true
    | _ => noComp a)
  | .par [i, j] [ta, tb], cf, st => match parP st with
    | some (x, px, y, py, a, b) => decide (cf.N[i]? = some x) && decide (cf.N[j]? = some y) && decide (i ≠ j) && swB cf x y px py [a, b] && noStar a && noStar b && chk ta false cf a && chk tb false cf b
    | none => false
  | .unp (.tp Gs) t, cf, .Assign [.Tuple tgs _ _] a _ => tgsB cf Gs tgs && noComp a && unB tgs a && chk t false cf a
  | .sub ta ti tv, cf, .Assign [.Subscript a b _] v _ => noComp v && noSlice b && chk ta false cf a && chk ti false cf b && chk tv false cf v
  | .exp t, cf, .Expr a _ => noComp a && chk t false cf a
  | .ret t, cf, .Return (some a) _ => chk t false cf a
  | .retn, _, .Return none _ => true
  | .ifs c a b, cf, .If ec ea eb _ => chk c true cf ec && chkSs a cf ea && chkSs b cf eb
  | .fors G k l b, cf, .For tg iter body [] _ => tgB cf G tg && (match iter with | .Set _ _ _ => false | _ => true) && (match iterB cf k tg iter with
      | some es => chkA l cf es
      | none => false) && chkSs b cf body
  | .whl _ c b, cf, .While ec body [] _ => chk c true cf ec && chkSs b cf body
  | .brk, _, .Break _ => true
  | .cnt, _, .Continue _ => true
  | .pas, _, .Pass _ => true
  | .bad, _, _ => true
  | _, _, _ => false
def chkSs : List S → Cf → List Stmt → Bool
  | [], _, [] => true
  | s :: l, cf, x :: m => chkS s cf x && chkSs l cf m
  | _, _, _ => false
end
end Vd
/-! Vd19: the check is sound. -/
namespace Vd
open PySem PySem.Spec PyProof.Rows L2
section
variable {g : Gx} {ce : CE} {kk : Nat} {X : Cx} {W : WX} {cf : Cf}
theorem vis_of {sc : Scope} {x : Str} (h : visB sc x = true) : Vis sc x := by
  unfold visB at h
  simp only [Bool.or_eq_true, decide_eq_true_eq] at h
  rcases h with (h | h) | h
  · exact .inl h
  · exact .inr (.inl h)
  · exact .inr (.inr h)
theorem neS {x y : Str} (h : x ≠ y) : (x == y) = false := by
  rw [beq_eq_false_iff_ne]; exact h
theorem loc_of (F : Fit cf g ce kk X) {x : Str} (h : locB cf x = true) : Loc X.env.scope x ∧ (X.fn x = true ∨ X.env.scope.names.lookup x = some .local) := by
  unfold locB at h
  simp only [Bool.or_eq_true, Bool.and_eq_true, decide_eq_true_eq] at h
  rw [F.sc]
  rcases h with h | ⟨h1, h2⟩
  · exact ⟨.inl h, .inr h⟩
  · exact ⟨.inr h1, .inl (F.fn x h2 h1)⟩
theorem gl_of (F : Fit cf g ce kk X) {x : Str} (h : glB cf x = true) : Gl X x := by
  unfold glB at h
  have h' := of_decide_eq_true h
  show X.env.scope.names.lookup x = _
  rw [F.sc]; exact h'
theorem blt_of (F : Fit cf g ce kk X) {x : Str} (h : bltB cf x = true) : Gl X x ∧ X.mg x = none := by
  unfold bltB at h
  simp only [Bool.and_eq_true, decide_eq_true_eq] at h
  exact ⟨gl_of F h.1, F.bs x h.2⟩
theorem plainN_of {x : Str} (h : plainN x = true) : (x == ("__debug__" : Str)) = false ∧ (x == ("__classdict__" : Str)) = false ∧ x ≠ "__name__" := by
  unfold plainN at h
  simp only [Bool.and_eq_true, decide_eq_true_eq] at h
  exact ⟨neS h.1.1, neS h.1.2, h.2⟩
theorem bootB : ∀ b : B1, b ≠ .setlen → bootBuiltins (nmB b) = some (bval b) ∧ nmB b ≠ "__name__" ∧ (nmB b == ("__debug__" : Str)) = false := by
  intro b hb
  cases b <;> first | exact absurd rfl hb | decide +kernel
theorem tyB_of (F : Fit cf g ce kk X) {t : Ty} {x : Str} {p : Pos} (h : tyB cf t (.Name x p) = true) : Gl X x ∧ X.mg x = none ∧ bootBuiltins x = some (.type (tyN t)) ∧ x ≠ "__name__" ∧ (x == ("__debug__" : Str)) = false := by
  unfold tyB at h
  simp only [Bool.and_eq_true, decide_eq_true_eq] at h
  obtain ⟨⟨rfl, h2⟩, h3⟩ := h
  obtain ⟨h4, h5⟩ := blt_of F h2
  refine ⟨h4, h5, ?_⟩
  cases t <;> first | (cases h3; done) | decide +kernel
theorem tysB_of : ∀ {ts : List Ty} {es : List Expr}, tysB cf ts es = true → ∃ l : List (Str × Pos), es = tyPs l ∧ l.length = ts.length ∧ ∀ (i : Nat) (y : Str × Pos) (t : Ty), l[i]? = some y → ts[i]? = some t → tyB cf t (.Name y.1 y.2) = true
  | [], [], _ => ⟨[], rfl, rfl, fun i y t h => by simp at h⟩
  | [], _ :: _, h => by cases h
  | _ :: _, [], h => by cases h
  | t :: ts, e :: es, h => by
    unfold tysB at h
    rw [Bool.and_eq_true] at h
    obtain ⟨l, rfl, h2, h3⟩ := tysB_of h.2
    have h1 := h.1
    cases e <;> first | (cases h1; done) | skip
    rename_i x p
    refine ⟨(x, p) :: l, rfl, by simp [h2], fun i y t' a b => ?_⟩
    cases i with
    | zero => cases a; cases b; exact h1
    | succ i => exact h3 i y t' (by simpa using a) (by simpa using b)
theorem Good.blk (G : Good g kk X W) (scope : Scope) : InB X scope fun X' => Good g kk X' W0 := fun s H C cl fp => ⟨G.hK, G.nd, G.calm, fun u s' ⟨_, _, _, _, _, _, _, _, _, _, _, _, _, _, _, _, w⟩ => w.elim, G.rm⟩
theorem Fit.blk (F : Fit cf g ce kk X) {scope : Scope} (hk : scope.kind = .function) (hu : ∀ y ∈ scope.names, scope.names.lookup y.1 = some y.2) : InB X scope fun X' => Fit (cf.blk scope) g ce kk X' := fun s H C cl fp => {
  N := F.N
  sc := by
    show relS scope X.env.scope = relS scope cf.sc
    rw [F.sc]
  kind := hk
  fn := fun x hx _ => by
    have hx' : x ∈ cellsOf scope := hx
    unfold cellsOf at hx'
    obtain ⟨y, hy, rfl⟩ := List.mem_map.mp hx'
    obtain ⟨h1, h2⟩ := List.mem_filter.mp hy
    have h3 := of_decide_eq_true h2
    show (scope.names.lookup y.1 == some .cell) = true
    rw [hu y h1, h3]
    rfl
  fs := F.fs
  cs := F.cs
  bs := F.bs }
mutual
theorem tgB_ok (F : Fit cf g ce kk X) (G : Good g kk X W) : ∀ (t : TG) (x : Expr), tgB cf t x = true → SG g X x t
  | .nm i, x, h => by
    cases x <;> first | (cases h; done) | skip
    unfold tgB at h
    simp only [Bool.and_eq_true, decide_eq_true_eq] at h
    obtain ⟨h1, h2⟩ := loc_of F h.2
    exact sg_nm G.nd (by rw [F.N]; exact h.1) h1 h2
  | .tp l, x, h => by
    cases x <;> first | (cases h; done) | skip
    unfold tgB at h
    obtain ⟨h1, h2, h3⟩ := tgsB_ok F G l _ h
    exact sg_tp G.hK G.calm h2 h3 h1
theorem tgsB_ok (F : Fit cf g ce kk X) (G : Good g kk X W) : ∀ (l : List TG) (es : List Expr), tgsB cf l es = true → SGs g X es l ∧ es.all noStar = true ∧ es.length = l.length
  | [], [], _ => ⟨sgs_nil, rfl, rfl⟩
  | [], _ :: _, h => by cases h
  | _ :: _, [], h => by cases h
  | t :: l, e :: m, h => by
    unfold tgsB at h
    simp only [Bool.and_eq_true] at h
    obtain ⟨h1, h2, h3⟩ := tgsB_ok F G l m h.2
    exact ⟨sgs_cons h.1.1 (tgB_ok F G t e h.1.2) h1, by rw [List.all_cons, h.1.1, h2]; rfl, by simp [h3]⟩
end
theorem keyB_ok {k : DK} {e : Option Expr} (h : keyB k e = true) : ∃ x, e = some x ∧ PE X x (tC (kV (kT k))) := by
  cases k with
  | inl i =>
    cases e with
    | none => cases h
    | some e =>
      cases e <;> first | (cases h; done) | skip
      rename_i c j p
      cases c <;> first | (cases h; done) | skip
      have := of_decide_eq_true (show decide (i = _) = true from h)
      subst this
      exact ⟨_, rfl, pe_int⟩
  | inr l =>
    cases e with
    | none => cases h
    | some e =>
      cases e <;> first | (cases h; done) | skip
      rename_i c j p
      cases c <;> first | (cases h; done) | skip
      have := of_decide_eq_true (show decide (sT l = _) = true from h)
      subst this
      exact ⟨_, rfl, pe_str⟩
theorem keysB_ok {pos : Pos} : ∀ {ks : List DK} {keys : List (Option Expr)} {vals : List Expr}, keysB ks keys = true → ks.length = vals.length → PPs X pos keys vals (prs X (ks.zip vals)) ∧ keys.all (·.isSome) = true ∧ keys.length = ks.length
  | [], [], [], _, _ => ⟨pps_nil, rfl, rfl⟩
  | [], _ :: _, _, h, _ => by cases h
  | _ :: _, [], _, h, _ => by cases h
  | _ :: _, _ :: _, [], _, h => by cases h
  | [], [], _ :: _, _, h => by cases h
  | k :: ks, e :: es, v :: vs, h, hl => by
    unfold keysB at h
    rw [Bool.and_eq_true] at h
    obtain ⟨h1, h2, h3⟩ := keysB_ok (pos := pos) h.2 (by simpa using hl)
    obtain ⟨x, rfl, hx⟩ := keyB_ok (X := X) h.1
    exact ⟨pps_cons hx (pe_W X v) h1, by rw [List.all_cons, h2]; rfl, by simp [h3]⟩
theorem iter_si {k : Ik} {tg iter : Expr} {es : List Expr} {ts : List T} (F : Fit cf g ce kk X) (G : Good g kk X W) (h : iterB cf k tg iter = some es) (hs : es.all noStar = true) (hl : es.length = ts.length) (ha : SA g X W es (evs ce ts)) (h1 : ∀ a ta, es = [a] → ts = [ta] → SE g X W a (ev ce ta)) :
    SI g X W tg iter (fun e => (evs ce ts e).bind (itsOf k)) ∧ ∀ x, foldedSetIterable iter X.env x = pure x := by
  unfold iterB at h
  split at h
  · cases h
  · rename_i e hne
    cases h
    match ts, hl with
    | [ta], _ => exact ⟨si_seq G (h1 _ _ rfl rfl), fun x => by
        cases iter <;> first | rfl | exact absurd rfl (hne _ _ _)⟩
  · split at h
    · rename_i hf
      obtain ⟨rfl, hb⟩ := hf
      cases h
      obtain ⟨b1, b2⟩ := blt_of F hb
      match ts, hl with
      | [ta], _ => exact ⟨si_rng1 G b1 b2 (by simpa using hs) ha, fun _ => rfl⟩
    · cases h
  · split at h
    · rename_i hf
      obtain ⟨rfl, hb⟩ := hf
      cases h
      obtain ⟨b1, b2⟩ := blt_of F hb
      simp only [List.all_cons, Bool.and_eq_true] at hs
      match ts, hl with
      | [ta, tb], _ => exact ⟨si_rng2 G b1 b2 hs.1 hs.2.1 ha, fun _ => rfl⟩
    · cases h
  · split at h
    · rename_i hf
      obtain ⟨rfl, hb⟩ := hf
      cases h
      obtain ⟨b1, b2⟩ := blt_of F hb
      match ts, hl with
      | [ta], _ => exact ⟨si_enum G b1 b2 (by simpa using hs) ha, fun _ => rfl⟩
    · cases h
  · split at h
    · rename_i hf
      obtain ⟨rfl, hb⟩ := hf
      cases h
      obtain ⟨b1, b2⟩ := blt_of F hb
      simp only [List.all_cons, Bool.and_eq_true] at hs
      match ts, hl with
      | [ta, tb], _ => exact ⟨si_zip G b1 b2 hs.1 hs.2.1 ha, fun _ => rfl⟩
    · cases h
  · cases h
theorem truth_of {a : Expr} (h : notB a = true) (env : Env) (whole : Sem Value) : isTrue a env whole = (do let v ← whole; standAt a.pos; holding [v] (truthy v)) := by
  cases a with
  | UnaryOp op x p => cases op <;> first | (cases h; done) | rfl
  | _ => first | (cases h; done) | rfl
theorem unB_ok {tgs : List Expr} {a : Expr} {k : Nat} {tp : Pos} {env : Env} (h : unB tgs a = true) : swappedStores [.Tuple tgs k tp] a env = pure none := by
  cases a <;> first | rfl | skip
  unfold unB at h
  dsimp only at h
  rw [Bool.and_false] at h; cases h
theorem subB_ok {a b v : Expr} {p : Pos} {env : Env} : swappedStores [.Subscript a b p] v env = pure none := by
  cases v <;> rfl
theorem swB_ok {x y : Str} {px py pt pt2 : Pos} {kt k2 : Nat} {a b : Expr} {env : Env} (hk : env.scope.kind = .function) (hx : env.scope.names.lookup x = some .local) (hy : env.scope.names.lookup y = some .local) (hl : (px.line == py.line) = true) (hne : x ≠ y)
    (hf : [a, b].all (foldedForSure 8) = false) (hc : [a, b].all (constantsAlone 8) = false) (ha : noStar a = true) (hb : noStar b = true) : swappedStores [.Tuple [.Name x px, .Name y py] kt pt] (.Tuple [a, b] k2 pt2) env = pure (some [x, y]) := by
  have hbk : env.blockKind = .function := by unfold Env.blockKind; rw [hk]; rfl
  have kx : env.kindOf x = some .local := hx
  have ky : env.kindOf y = some .local := hy
  have hline : py.line = px.line := (eq_of_beq hl).symm
  unfold swappedStores
  simp only [List.length_cons, List.length_nil, hbk, hf, hc, List.any_cons, List.any_nil]
  have hne' : (y == x) = false := neS (Ne.symm hne)
  simp [Expr.pos, kx, ky, hline, List.eraseDups_cons, hne, hne', Ne.symm hne]
  intro h
  exfalso
  rcases h with h | h
  · cases a <;> first | (cases ha; done) | (cases h; done)
  · cases b <;> first | (cases hb; done) | (cases h; done)
end
end Vd
namespace Vd
open PySem PySem.Spec PyProof.Rows L2
section
variable {g : Gx} {ce : CE}
/-- behind the first .. of a row of and, or -/
theorem rest_se {kk : Nat} {X : Cx} {W : WX} {op : BoolOp} {eb : Expr} {rest : List Expr} {p : Pos} {m : VE → R Val} (h : SE g X W (match rest with | [] => eb | _ => .BoolOp op (eb :: rest) p) m) : SE g X W (.BoolOp op (eb :: rest) p) m := by
  cases rest with
  | nil => exact fun e σ Hb H Q I h' => tW_of (pe_one (pe_W X eb)) (h e σ Hb H Q I h')
  | cons a l => exact h
theorem noS_all : ∀ {l : List T} {cf : Cf} {es : List Expr}, chkA l cf es = true → es.all noStar = true ∧ es.length = l.length
  | [], _, [], _ => ⟨rfl, rfl⟩
  | [], _, _ :: _, h => by unfold chkA at h; cases h
  | _ :: _, _, [], h => by unfold chkA at h; cases h
  | t :: l, cf, e :: m, h => by
    unfold chkA at h
    simp only [Bool.and_eq_true] at h
    obtain ⟨h1, h2⟩ := noS_all h.2
    exact ⟨by rw [List.all_cons, h.1.1, h1]; rfl, by simp [h2]⟩
theorem rest_wh {op : BoolOp} {es : List Expr} {p : Pos} {env : Env} (wh wh' : Sem Value) {M : Model} {A : Around} {Q : Bool → Shared → Prop} {E : Value → Shared → Prop} {s : Shared} : wpAny M A (isTrue (.BoolOp op es p) env wh) Q E s ↔ wpAny M A (isTrue (.BoolOp op es p) env wh') Q E s := Iff.rfl
theorem lc_parts {kk : Nat} {X : Cx} {W : WX} {cf : Cf} {scope : Scope} {own : List Nat} {G' : TG} {tg : Expr} (h1 : blkC cf.N cf.sc scope (own.map fun i => (cf.N.getD i "", i)) = true) (h2 : ((slots G').all fun j => decide (j ∈ own)) = true) (h3 : tgB (cf.blk scope) G' tg = true) (F : Fit cf g ce kk X) (G : Good g kk X W) :
    BlkOk X.N X.env.scope scope (own.map fun i => (cf.N.getD i "", i)) ∧ (InB X scope fun X' => SG g X' tg G') ∧ (∀ j ∈ slots G', j ∈ (own.map fun i => (cf.N.getD i "", i)).map (·.2)) ∧ (own.map fun i => (cf.N.getD i "", i)).map (·.2) = own ∧ (InB X scope fun X' => Fit (cf.blk scope) g ce kk X') ∧ InB X scope fun X' => Good g kk X' W0 := by
  have q1 := blkOk_by h1
  have q6 := F.blk q1.kind q1.uniq
  have q7 := G.blk scope
  have q4 : (own.map fun i => (cf.N.getD i "", i)).map (·.2) = own := by
    rw [List.map_map]
    exact List.map_id' own
  refine ⟨by rw [F.N, F.sc]; exact q1, fun s H C cl fp => tgB_ok (q6 s H C cl fp) (q7 s H C cl fp) G' tg h3, fun j hj => ?_, q4, q6, q7⟩
  rw [q4]
  exact of_decide_eq_true (List.all_eq_true.mp h2 j hj)
mutual
theorem chk_ok : ∀ (t : T) (m : Bool) (cf : Cf) (x : Expr) (kk : Nat) (X : Cx) (W : WX), chk t m cf x = true → Fit cf g ce kk X → Good g kk X W → (m = false → SE g X W x (ev ce t)) ∧ (m = true → ST g X W x (evT ce t))
  | .var i, m, cf, x, kk, X, W, h, F, G => by
    have nb : notB x = true := by
      cases x <;> first | rfl | (unfold chk at h; cases h; done)
    have se : SE g X W x (ev ce (.var i)) := by
      cases x <;> first | (unfold chk at h; cases h; done) | skip
      unfold chk at h
      simp only [Bool.and_eq_true, decide_eq_true_eq] at h
      obtain ⟨p1, p2, _⟩ := plainN_of h.2
      exact se_var (by rw [F.N]; exact h.1.1) (by rw [F.sc]; exact vis_of h.1.2) p1 p2
    exact ⟨fun _ => se, fun _ => st_val G se (truth_of nb _) (fun e => by rw [evT] <;> intros <;> simp_all)⟩
  | .int i, m, cf, x, kk, X, W, h, F, G => by
    have nb : notB x = true := by
      cases x <;> first | rfl | (unfold chk at h; cases h; done)
    have se : SE g X W x (ev ce (.int i)) := by
      cases x <;> first | (unfold chk at h; cases h; done) | skip
      rename_i c j p
      cases c <;> first | (unfold chk at h; cases h; done) | skip
      unfold chk at h
      have := of_decide_eq_true h
      subst this
      exact se_const (d := .int i) pe_int (fun _ => rfl) (fun e => by rw [ev])
    exact ⟨fun _ => se, fun _ => st_val G se (truth_of nb _) (fun e => by rw [evT] <;> intros <;> simp_all)⟩
  | .bl b, m, cf, x, kk, X, W, h, F, G => by
    have nb : notB x = true := by
      cases x <;> first | rfl | (unfold chk at h; cases h; done)
    have se : SE g X W x (ev ce (.bl b)) := by
      cases x <;> first | (unfold chk at h; cases h; done) | skip
      rename_i c j p
      cases c <;> first | (unfold chk at h; cases h; done) | skip
      unfold chk at h
      have := of_decide_eq_true h
      subst this
      exact se_const (d := .bl b) pe_bl (fun _ => rfl) (fun e => by rw [ev])
    exact ⟨fun _ => se, fun _ => st_val G se (truth_of nb _) (fun e => by rw [evT] <;> intros <;> simp_all)⟩
  | .non, m, cf, x, kk, X, W, h, F, G => by
    have nb : notB x = true := by
      cases x <;> first | rfl | (unfold chk at h; cases h; done)
    have se : SE g X W x (ev ce .non) := by
      cases x <;> first | (unfold chk at h; cases h; done) | skip
      rename_i c j p
      cases c <;> first | (unfold chk at h; cases h; done) | skip
      exact se_const (d := .non) pe_non (fun _ => rfl) (fun e => by rw [ev])
    exact ⟨fun _ => se, fun _ => st_val G se (truth_of nb _) (fun e => by rw [evT] <;> intros <;> simp_all)⟩
  | .str l, m, cf, x, kk, X, W, h, F, G => by
    have nb : notB x = true := by
      cases x <;> first | rfl | (unfold chk at h; cases h; done)
    have se : SE g X W x (ev ce (.str l)) := by
      cases x <;> first | (unfold chk at h; cases h; done) | skip
      rename_i c j p
      cases c <;> first | (unfold chk at h; cases h; done) | skip
      unfold chk at h
      simp only [Bool.and_eq_true, decide_eq_true_eq] at h
      obtain ⟨h1, h2⟩ := h
      subst h1
      exact se_const (d := .str l) pe_str (fun _ => ⟨rfl, by rw [← line_eq]; exact h2⟩) (fun e => by rw [ev])
    exact ⟨fun _ => se, fun _ => st_val G se (truth_of nb _) (fun e => by rw [evT] <;> intros <;> simp_all)⟩
  | .con k, m, cf, x, kk, X, W, h, F, G => by
    have nb : notB x = true := by
      cases x <;> first | rfl | (unfold chk at h; cases h; done)
    have se : SE g X W x (ev ce (.con k)) := by
      cases x <;> first | (unfold chk at h; cases h; done) | skip
      unfold chk at h
      simp only [Bool.and_eq_true, decide_eq_true_eq] at h
      obtain ⟨u, v, h1, h2, h3⟩ := F.cs _ _ h.1.2
      exact se_const (pe_glob (gl_of F h.1.1) h1 h2 (plainN_of h.2).1) h3 (fun e => by rw [ev])
    exact ⟨fun _ => se, fun _ => st_val G se (truth_of nb _) (fun e => by rw [evT] <;> intros <;> simp_all)⟩
  | .bin o a b, m, cf, x, kk, X, W, h, F, G => by
    have nb : notB x = true := by
      cases x <;> first | rfl | (unfold chk at h; cases h; done)
    have se : SE g X W x (ev ce (.bin o a b)) := by
      cases x <;> first | (unfold chk at h; cases h; done) | skip
      unfold chk at h
      simp only [Bool.and_eq_true] at h
      obtain ⟨⟨h1, h2⟩, h3⟩ := h
      rw [o2B_eq h1]
      exact se_bin G ((chk_ok a false cf _ kk X W h2 F G).1 rfl) ((chk_ok b false cf _ kk X W h3 F G).1 rfl)
    exact ⟨fun _ => se, fun _ => st_val G se (truth_of nb _) (fun e => by rw [evT] <;> intros <;> simp_all)⟩
  | .cmp o a b, m, cf, x, kk, X, W, h, F, G => by
    cases x <;> first | (unfold chk at h; cases h; done) | skip
    rename_i ea ops cs p
    match ops, cs, h with
    | [op], [eb], h =>
      unfold chk at h
      simp only [Bool.and_eq_true, Bool.not_eq_true'] at h
      obtain ⟨⟨⟨h1, h2⟩, h3⟩, h4⟩ := h
      rw [cqB_eq h1] at h2 ⊢
      exact ⟨fun _ => se_cmp G h2 ((chk_ok a false cf _ kk X W h3 F G).1 rfl) ((chk_ok b false cf _ kk X W h4 F G).1 rfl), fun _ => st_cmp G h2 ((chk_ok a false cf _ kk X W h3 F G).1 rfl) ((chk_ok b false cf _ kk X W h4 F G).1 rfl)⟩
    | [], _, h => unfold chk at h; cases h
    | [_], [], h => unfold chk at h; cases h
    | [_], _ :: _ :: _, h => unfold chk at h; cases h
    | _ :: _ :: _, _, h => unfold chk at h; cases h
  | .chn o p' a b c, m, cf, x, kk, X, W, h, F, G => by
    cases x <;> first | (unfold chk at h; cases h; done) | skip
    rename_i ea ops cs p
    match ops, cs, h with
    | [op, op'], [eb, ec], h =>
      unfold chk at h
      simp only [Bool.and_eq_true, Bool.not_eq_true'] at h
      obtain ⟨⟨⟨⟨⟨h1, h2⟩, h3⟩, h4⟩, h5⟩, h6⟩ := h
      rw [cqB_eq h1, cqB_eq h2] at h3 ⊢
      exact ⟨fun _ => se_chn G h3 ((chk_ok a false cf _ kk X W h4 F G).1 rfl) ((chk_ok b false cf _ kk X W h5 F G).1 rfl) ((chk_ok c false cf _ kk X W h6 F G).1 rfl), fun _ => st_chn G h3 ((chk_ok a false cf _ kk X W h4 F G).1 rfl) ((chk_ok b false cf _ kk X W h5 F G).1 rfl) ((chk_ok c false cf _ kk X W h6 F G).1 rfl)⟩
    | [], _, h => unfold chk at h; cases h
    | [_], _, h => unfold chk at h; cases h
    | [_, _], [], h => unfold chk at h; cases h
    | [_, _], [_], h => unfold chk at h; cases h
    | [_, _], _ :: _ :: _ :: _, h => unfold chk at h; cases h
    | _ :: _ :: _ :: _, _, h => unfold chk at h; cases h
  | .and a b, m, cf, x, kk, X, W, h, F, G => by
    cases x <;> first | (unfold chk at h; cases h; done) | skip
    rename_i op es p
    match op, es, h with
    | .And, ea :: eb :: rest, h =>
      unfold chk at h
      simp only [Bool.and_eq_true] at h
      have ha := chk_ok a m cf _ kk X W h.1 F G
      have hb := chk_ok b m cf _ kk X W h.2 F G
      refine ⟨fun hm => se_and (ha.1 hm) (rest_se (kk := kk) (hb.1 hm)), fun hm => ?_⟩
      have hb' := hb.2 hm
      refine fun e σ Hb H Q I h' pins s J => st_and (ha.2 hm) ?_ _ e σ Hb H Q I h' pins s J
      cases rest with
      | nil => exact st_last hb'
      | cons r rest => exact fun wh e σ Hb H Q I h' pins s J => (rest_wh wh _).mpr (hb' e σ Hb H Q I h' pins s J)
    | .Or, _, h => unfold chk at h; cases h
    | .And, [], h => unfold chk at h; cases h
    | .And, [_], h => unfold chk at h; cases h
  | .or a b, m, cf, x, kk, X, W, h, F, G => by
    cases x <;> first | (unfold chk at h; cases h; done) | skip
    rename_i op es p
    match op, es, h with
    | .Or, ea :: eb :: rest, h =>
      unfold chk at h
      simp only [Bool.and_eq_true] at h
      have ha := chk_ok a m cf _ kk X W h.1 F G
      have hb := chk_ok b m cf _ kk X W h.2 F G
      refine ⟨fun hm => se_or (ha.1 hm) (rest_se (kk := kk) (hb.1 hm)), fun hm => ?_⟩
      have hb' := hb.2 hm
      refine fun e σ Hb H Q I h' pins s J => st_or (ha.2 hm) ?_ _ e σ Hb H Q I h' pins s J
      cases rest with
      | nil => exact st_last hb'
      | cons r rest => exact fun wh e σ Hb H Q I h' pins s J => (rest_wh wh _).mpr (hb' e σ Hb H Q I h' pins s J)
    | .And, _, h => unfold chk at h; cases h
    | .Or, [], h => unfold chk at h; cases h
    | .Or, [_], h => unfold chk at h; cases h
  | .not a, m, cf, x, kk, X, W, h, F, G => by
    cases x <;> first | (unfold chk at h; cases h; done) | skip
    rename_i op ea p
    cases op <;> first | (unfold chk at h; cases h; done) | skip
    unfold chk at h
    have ha := chk_ok a m cf _ kk X W h F G
    exact ⟨fun hm => se_not (ha.1 hm), fun hm => st_not (ha.2 hm)⟩
  | .neg a, m, cf, x, kk, X, W, h, F, G => by
    have nb : notB x = true := by
      cases x <;> first | rfl | (unfold chk at h; cases h; done) | skip
      rename_i op a p
      cases op <;> first | rfl | (unfold chk at h; cases h)
    have se : SE g X W x (ev ce (.neg a)) := by
      cases x <;> first | (unfold chk at h; cases h; done) | skip
      rename_i op ea p
      cases op <;> first | (unfold chk at h; cases h; done) | skip
      unfold chk at h
      exact se_neg ((chk_ok a false cf _ kk X W h F G).1 rfl)
    exact ⟨fun _ => se, fun _ => st_val G se (truth_of nb _) (fun e => by rw [evT] <;> intros <;> simp_all)⟩
  | .ite c a b, m, cf, x, kk, X, W, h, F, G => by
    cases x <;> first | (unfold chk at h; cases h; done) | skip
    unfold chk at h
    simp only [Bool.and_eq_true, Bool.not_eq_true'] at h
    refine ⟨fun _ => se_ite ((chk_ok c true cf _ kk X W h.1.1.2 F G).2 rfl) ((chk_ok a false cf _ kk X W h.1.2 F G).1 rfl) ((chk_ok b false cf _ kk X W h.2 F G).1 rfl), fun hm => ?_⟩
    rw [hm] at h
    cases h.1.1.1
  | .tup l, m, cf, x, kk, X, W, h, F, G => by
    have nb : notB x = true := by
      cases x <;> first | rfl | (unfold chk at h; cases h; done)
    have se : SE g X W x (ev ce (.tup l)) := by
      cases x <;> first | (unfold chk at h; cases h; done) | skip
      unfold chk at h
      exact se_tup (chkA_ok l cf _ kk X W h F G)
    exact ⟨fun _ => se, fun _ => st_val G se (truth_of nb _) (fun e => by rw [evT] <;> intros <;> simp_all)⟩
  | .lst l, m, cf, x, kk, X, W, h, F, G => by
    have nb : notB x = true := by
      cases x <;> first | rfl | (unfold chk at h; cases h; done)
    have se : SE g X W x (ev ce (.lst l)) := by
      cases x <;> first | (unfold chk at h; cases h; done) | skip
      unfold chk at h
      exact se_lst (chkA_ok l cf _ kk X W h F G)
    exact ⟨fun _ => se, fun _ => st_val G se (truth_of nb _) (fun e => by rw [evT] <;> intros <;> simp_all)⟩
  | .dct ks l, m, cf, x, kk, X, W, h, F, G => by
    have nb : notB x = true := by
      cases x <;> first | rfl | (unfold chk at h; cases h; done)
    have se : SE g X W x (ev ce (.dct ks l)) := by
      cases x <;> first | (unfold chk at h; cases h; done) | skip
      rename_i keys vals p
      unfold chk at h
      simp only [Bool.and_eq_true, decide_eq_true_eq] at h
      obtain ⟨⟨⟨h1, h2⟩, h3⟩, h4⟩ := h
      obtain ⟨k1, k2, k3⟩ := keysB_ok (X := X) (pos := p) h1 h2
      have hv : (ks.zip vals).map (·.2) = vals := by rw [List.map_snd_zip]; omega
      have hks : (ks.zip vals).map (·.1) = ks := by rw [List.map_fst_zip]; omega
      cases ks with
      | nil =>
        have : vals = [] := List.length_eq_zero_iff.mp (by simpa using h2.symm)
        subst this
        have : keys = [] := List.length_eq_zero_iff.mp (by simpa using k3)
        subst this
        have : l = [] := by
          cases l with
          | nil => rfl
          | cons t l => unfold chkA at h4; cases h4
        subst this
        exact se_dct0
      | cons k0 ks0 =>
        have hz : (k0 :: ks0).zip vals ≠ [] := fun z => by
          have : ((k0 :: ks0).zip vals).length = 0 := by rw [z]; rfl
          rw [List.length_zip, h2, Nat.min_self] at this
          rw [this] at h2; cases h2
        have := se_dct (g := g) (W := W) (ce := ce) (ts := l) (pos := p) (keys := keys) (l := (k0 :: ks0).zip vals) (by rw [hv]; exact k1) k2 (by rw [k3, List.length_zip, h2, Nat.min_self]) hz (by rw [List.length_zip, h2, Nat.min_self]; exact h3)
          (chkD_ok l cf vals (k0 :: ks0) kk X W h4 h2 F G)
        rw [hv, hks] at this
        exact this
    exact ⟨fun _ => se, fun _ => st_val G se (truth_of nb _) (fun e => by rw [evT] <;> intros <;> simp_all)⟩
  | .ix a b, m, cf, x, kk, X, W, h, F, G => by
    have nb : notB x = true := by
      cases x <;> first | rfl | (unfold chk at h; cases h; done)
    have se : SE g X W x (ev ce (.ix a b)) := by
      cases x <;> first | (unfold chk at h; cases h; done) | skip
      unfold chk at h
      simp only [Bool.and_eq_true] at h
      exact se_ix G h.1.1 ((chk_ok a false cf _ kk X W h.1.2 F G).1 rfl) ((chk_ok b false cf _ kk X W h.2 F G).1 rfl)
    exact ⟨fun _ => se, fun _ => st_val G se (truth_of nb _) (fun e => by rw [evT] <;> intros <;> simp_all)⟩
  | .sl a lo hi, m, cf, x, kk, X, W, h, F, G => by
    have nb : notB x = true := by
      cases x <;> first | rfl | (unfold chk at h; cases h; done)
    have se : SE g X W x (ev ce (.sl a lo hi)) := by
      cases x <;> first | (unfold chk at h; cases h; done) | skip
      rename_i ea es p
      cases es <;> first | (unfold chk at h; cases h; done) | skip
      rename_i elo ehi est p2
      cases est with
      | some z => unfold chk at h; cases h
      | none =>
        unfold chk at h
        simp only [Bool.and_eq_true] at h
        exact se_sl G ((chk_ok a false cf _ kk X W h.1.1 F G).1 rfl) (chkO_ok lo cf _ kk X W h.1.2 F G) (chkO_ok hi cf _ kk X W h.2 F G)
    exact ⟨fun _ => se, fun _ => st_val G se (truth_of nb _) (fun e => by rw [evT] <;> intros <;> simp_all)⟩
  | .call f l, m, cf, x, kk, X, W, h, F, G => by
    have nb : notB x = true := by
      cases x <;> first | rfl | (unfold chk at h; cases h; done)
    have se : SE g X W x (ev ce (.call f l)) := by
      cases x <;> first | (unfold chk at h; cases h; done) | skip
      rename_i fn es ks p
      cases fn <;> first | (unfold chk at h; cases h; done) | skip
      cases ks with
      | cons a b => unfold chk at h; cases h
      | nil =>
        unfold chk at h
        simp only [Bool.and_eq_true, decide_eq_true_eq] at h
        obtain ⟨⟨⟨h1, h2⟩, h3⟩, h4⟩ := h
        obtain ⟨k, addr, fd, ps, f1, f2, f3, f4, f5, f6⟩ := F.fs _ _ _ h2
        obtain ⟨n1, n2⟩ := noS_all h4
        have ha := chkA_ok l cf es kk X W h4 F G
        cases es with
        | nil =>
          have hl : l = [] := List.length_eq_zero_iff.mp (by simpa using n2.symm)
          subst hl
          have hp : ps = [] := List.length_eq_zero_iff.mp (by simpa using f6)
          subst hp
          exact se_call0 G f1 f2 (gl_of F h1) f3 f4 f5 (plainN_of h3).1
        | cons a es => exact se_call G f1 f2 (gl_of F h1) f3 f4 f5 (plainN_of h3).1 f6.symm n1 ha
    exact ⟨fun _ => se, fun _ => st_val G se (truth_of nb _) (fun e => by rw [evT] <;> intros <;> simp_all)⟩
  | .bi b l, m, cf, x, kk, X, W, h, F, G => by
    have nb : notB x = true := by
      cases x <;> first | rfl | (unfold chk at h; cases h; done)
    have se : SE g X W x (ev ce (.bi b l)) := by
      cases x <;> first | (unfold chk at h; cases h; done) | skip
      rename_i fn es ks p
      cases fn <;> first | (unfold chk at h; cases h; done) | skip
      rename_i y yp
      cases ks with
      | cons a b => unfold chk at h; cases h
      | nil =>
        have gen : b ≠ .setlen → (decide (y = nmB b) && bltB cf y && !es.isEmpty && chkA l cf es) = true → SE g X W (.Call (.Name y yp) es [] p) (ev ce (.bi b l)) := by
          intro hb h
          simp only [Bool.and_eq_true, decide_eq_true_eq, Bool.not_eq_true'] at h
          obtain ⟨⟨⟨rfl, h2⟩, h3⟩, h4⟩ := h
          obtain ⟨b1, b2⟩ := blt_of F h2
          obtain ⟨c1, c2, c3⟩ := bootB b hb
          obtain ⟨n1, n2⟩ := noS_all h4
          have ha := chkA_ok l cf es kk X W h4 F G
          cases es with
          | nil => cases h3
          | cons a es => exact se_bi G hb b1 b2 c1 c2 c3 n1 ha
        cases b <;> first | (exact gen (by decide) (by unfold chk at h; exact h)) | skip
        -- len(set(..))
        unfold chk at h
        simp only [Bool.and_eq_true, decide_eq_true_eq] at h
        obtain ⟨⟨rfl, h2⟩, h3⟩ := h
        obtain ⟨b1, b2⟩ := blt_of F h2
        split at h3
        · rename_i z zp as zp2
          simp only [Bool.and_eq_true, decide_eq_true_eq] at h3
          obtain ⟨⟨⟨rfl, h4⟩, h5⟩, h6⟩ := h3
          obtain ⟨b3, b4⟩ := blt_of F h4
          obtain ⟨n1, n2⟩ := noS_all h6
          have h7 := chkA1_ok l cf as kk X W h6 F G
          match l, as, h5, h6, n1, n2, h7 with
          | [ta], [a], _, h6, n1, _, h7 =>
            unfold chkA at h6
            simp only [Bool.and_eq_true] at h6
            exact se_ls G b1 b2 b3 b4 h6.1.1 (h7 a ta rfl rfl)
        · cases h3
    exact ⟨fun _ => se, fun _ => st_val G se (truth_of nb _) (fun e => by rw [evT] <;> intros <;> simp_all)⟩
  | .mt m a l, md, cf, x, kk, X, W, h, F, G => by
    have nb : notB x = true := by
      cases x <;> first | rfl | (unfold chk at h; cases h; done)
    have se : SE g X W x (ev ce (.mt m a l)) := by
      cases x <;> first | (unfold chk at h; cases h; done) | skip
      rename_i fn es ks p
      cases fn <;> first | (unfold chk at h; cases h; done) | skip
      rename_i ea nm ap
      cases ks with
      | cons a b => unfold chk at h; cases h
      | nil =>
        unfold chk at h
        simp only [Bool.and_eq_true, decide_eq_true_eq] at h
        obtain ⟨⟨⟨⟨⟨rfl, h2⟩, h3⟩, h4⟩, h5⟩, h6⟩ := h
        have ha := ((chk_ok a false cf ea kk X W h4 F G).1 rfl)
        have h7 := chkA1_ok l cf es kk X W h5 F G
        split at h6
        · rename_i tv
          match es, h5 with
          | [v], h5 =>
            unfold chkA at h5
            simp only [Bool.and_eq_true] at h5
            exact se_append G.hK h2 h3 h5.1.1 ha (h7 v tv rfl rfl)
          | [], h5 => unfold chkA at h5; cases h5
          | _ :: _ :: _, h5 =>
            unfold chkA at h5
            simp only [Bool.and_eq_true] at h5
            have := h5.2
            unfold chkA at this; cases this
        · rename_i tv
          match es, h5 with
          | [v], h5 =>
            unfold chkA at h5
            simp only [Bool.and_eq_true] at h5
            exact se_extend G.hK h2 h3 h5.1.1 ha (h7 v tv rfl rfl)
          | [], h5 => unfold chkA at h5; cases h5
          | _ :: _ :: _, h5 =>
            unfold chkA at h5
            simp only [Bool.and_eq_true] at h5
            have := h5.2
            unfold chkA at this; cases this
        · match es, h5 with
          | [], h5 => exact se_pop G.hK h2 h3 ha
          | _ :: _, h5 => unfold chkA at h5; cases h5
        · cases h6
    exact ⟨fun _ => se, fun _ => st_val G se (truth_of nb _) (fun e => by rw [evT] <;> intros <;> simp_all)⟩
  | .isi a ts, m, cf, x, kk, X, W, h, F, G => by
    have nb : notB x = true := by
      cases x <;> first | rfl | (unfold chk at h; cases h; done)
    have se : SE g X W x (ev ce (.isi a ts)) := by
      cases x <;> first | (unfold chk at h; cases h; done) | skip
      rename_i fn es ks p
      cases fn <;> first | (unfold chk at h; cases h; done) | skip
      rename_i y yp
      match es, ks, h with
      | [ea, et], [], h =>
        unfold chk at h
        simp only [Bool.and_eq_true, decide_eq_true_eq] at h
        obtain ⟨⟨⟨⟨rfl, h2⟩, h3⟩, h4⟩, h5⟩ := h
        obtain ⟨b1, b2⟩ := blt_of F h2
        have ha := ((chk_ok a false cf ea kk X W h4 F G).1 rfl)
        split at h5
        · obtain ⟨c1, c2, c3, c4, c5⟩ := tyB_of F h5
          exact se_isi G b1 b2 c1 c2 c3 c4 c5 h3 ha
        · simp only [Bool.and_eq_true, decide_eq_true_eq, Bool.not_eq_true'] at h5
          obtain ⟨⟨h5, h6⟩, h7⟩ := h5
          obtain ⟨l, rfl, l2, l3⟩ := tysB_of h5
          exact se_isis G b1 b2 l2 (fun z => by rw [z] at h6; cases h6) h7 (fun i y t z z' => tyB_of F (l3 i y t z z')) h3 ha
        · cases h5
      | [_, _], _ :: _, h => unfold chk at h; cases h
      | [], _, h => unfold chk at h; cases h
      | [_], _, h => unfold chk at h; cases h
      | _ :: _ :: _ :: _, _, h => unfold chk at h; cases h
    exact ⟨fun _ => se, fun _ => st_val G se (truth_of nb _) (fun e => by rw [evT] <;> intros <;> simp_all)⟩
  | .lc t G' k l c own, m, cf, x, kk, X, W, h, F, G => by
    have nb : notB x = true := by
      cases x <;> first | rfl | (unfold chk at h; cases h; done)
    have se : SE g X W x (ev ce (.lc t G' k l c own)) := by
      cases x <;> first | (unfold chk at h; cases h; done) | skip
      rename_i elt gens scope p
      match gens, h with
      | [⟨tg, iter, ifs, asy⟩], h =>
        unfold chk at h
        simp only [Bool.and_eq_true] at h
        obtain ⟨⟨⟨⟨⟨⟨h0, h1⟩, h2⟩, h3⟩, h4⟩, h5⟩, h6⟩ := h
        have h0 := of_decide_eq_true h0
        subst h0
        obtain ⟨q1, q2, q3, q4, q6, q7⟩ := lc_parts h1 h2 h3 F G
        have ht : InB X scope fun X' => SE g X' W0 elt (ev ce t) := fun s H C cl fp => ((chk_ok t false (cf.blk scope) elt kk _ W0 h4 (q6 s H C cl fp) (q7 s H C cl fp)).1 rfl)
        have hc : InB X scope fun X' => sTs g X' ifs (evc ce c) := fun s H C cl fp => by
          split at h6
          · cases c with
            | none => exact sTs_nil
            | some tc => cases h6
          · exact chkO'_ok c (cf.blk scope) _ kk _ h6 (q6 s H C cl fp) (q7 s H C cl fp)
          · cases h6
        split at h5
        · rename_i es hes
          obtain ⟨n1, n2⟩ := noS_all h5
          obtain ⟨i1, i2⟩ := iter_si F G hes n1 n2 (chkA_ok l cf es kk X W h5 F G) (fun a ta e1 e2 => chkA1_ok l cf es kk X W h5 F G a ta e1 e2)
          have := se_lc (pos := p) G i2 q1 i1 q2 q3 hc ht
          rw [q4] at this
          exact this
        · cases h5
      | [], h => unfold chk at h; cases h
      | ⟨_, _, _, _⟩ :: _ :: _, h => unfold chk at h; cases h
    exact ⟨fun _ => se, fun _ => st_val G se (truth_of nb _) (fun e => by rw [evT] <;> intros <;> simp_all)⟩
termination_by structural t => t
theorem chkA_ok : ∀ (l : List T) (cf : Cf) (es : List Expr) (kk : Nat) (X : Cx) (W : WX), chkA l cf es = true → Fit cf g ce kk X → Good g kk X W → SA g X W es (evs ce l)
  | [], cf, [], kk, X, W, h, F, G => sa_nil
  | [], cf, _ :: _, kk, X, W, h, F, G => by unfold chkA at h; cases h
  | _ :: _, cf, [], kk, X, W, h, F, G => by unfold chkA at h; cases h
  | t :: l, cf, e :: m, kk, X, W, h, F, G => by
    unfold chkA at h
    simp only [Bool.and_eq_true] at h
    exact sa_cons ((chk_ok t false cf e kk X W h.1.2 F G).1 rfl) (chkA_ok l cf m kk X W h.2 F G) (star1 h.1.1 m X.env)
termination_by structural l => l
theorem chkD_ok : ∀ (l : List T) (cf : Cf) (es : List Expr) (ks : List DK) (kk : Nat) (X : Cx) (W : WX), chkA l cf es = true → ks.length = es.length → Fit cf g ce kk X → Good g kk X W → SD g X W (ks.zip es) (evs ce l)
  | [], cf, [], ks, kk, X, W, h, hl, F, G => by
    have : ks = [] := List.length_eq_zero_iff.mp (by simpa using hl)
    subst this
    exact sd_nil
  | [], cf, _ :: _, _, kk, X, W, h, _, F, G => by unfold chkA at h; cases h
  | _ :: _, cf, [], _, kk, X, W, h, _, F, G => by unfold chkA at h; cases h
  | t :: l, cf, e :: m, [], kk, X, W, h, hl, F, G => by cases hl
  | t :: l, cf, e :: m, k :: ks, kk, X, W, h, hl, F, G => by
    unfold chkA at h
    simp only [Bool.and_eq_true] at h
    exact sd_cons ((chk_ok t false cf e kk X W h.1.2 F G).1 rfl) (chkD_ok l cf m ks kk X W h.2 (by simpa using hl) F G)
termination_by structural l => l
theorem chkA1_ok : ∀ (l : List T) (cf : Cf) (es : List Expr) (kk : Nat) (X : Cx) (W : WX), chkA l cf es = true → Fit cf g ce kk X → Good g kk X W → ∀ a ta, es = [a] → l = [ta] → SE g X W a (ev ce ta)
  | [], cf, es, kk, X, W, h, F, G => fun a ta _ e => by cases e
  | t :: l, cf, es, kk, X, W, h, F, G => fun a ta e1 e2 => by
    subst e1
    unfold chkA at h
    simp only [Bool.and_eq_true] at h
    have := (chk_ok t false cf a kk X W h.1.2 F G).1 rfl
    cases e2
    exact this
termination_by structural l => l
theorem chkO_ok : ∀ (o : Option T) (cf : Cf) (x : Option Expr) (kk : Nat) (X : Cx) (W : WX), chkO o cf x = true → Fit cf g ce kk X → Good g kk X W → SO g X W x (evo ce o)
  | none, cf, none, kk, X, W, h, F, G => so_none
  | none, cf, some _, kk, X, W, h, F, G => by unfold chkO at h; cases h
  | some t, cf, none, kk, X, W, h, F, G => by unfold chkO at h; cases h
  | some t, cf, some e, kk, X, W, h, F, G => by
    unfold chkO at h
    exact so_some ((chk_ok t false cf e kk X W h F G).1 rfl)
termination_by structural o => o
theorem chkO'_ok : ∀ (o : Option T) (cf : Cf) (x : Expr) (kk : Nat) (X : Cx), chkO' o cf x = true → Fit cf g ce kk X → Good g kk X W0 → sTs g X [x] (evc ce o)
  | none, cf, x, kk, X, h, F, G => by unfold chkO' at h; cases h
  | some t, cf, x, kk, X, h, F, G => by
    unfold chkO' at h
    exact sTs_one ((chk_ok t true cf x kk X W0 h F G).2 rfl)
termination_by structural o => o
end
end
end Vd
/-! Vd20: suites; defs. -/
namespace Vd
open PySem PySem.Spec PyProof.Rows L2
section
variable {g : Gx} {ce : CE}
mutual
theorem chkS_ok : ∀ (s : S) (cf : Cf) (x : Stmt) (kk : Nat) (X : Cx) (W : WX), chkS s cf x = true → Fit cf g ce kk X → Good g kk X W → PassesOwn (model X.prog X.w) X.A X.env X.xe → SS1 g X W x (ex ce s)
  | .set i t, cf, x, kk, X, W, h, F, G, hp => by
    cases x <;> first | (unfold chkS at h; cases h; done) | skip
    rename_i tgs a p
    match tgs, h with
    | [tg], h =>
      cases tg <;> first | (unfold chkS at h; cases h; done) | skip
      rename_i y py
      unfold chkS at h
      simp only [Bool.and_eq_true, decide_eq_true_eq] at h
      obtain ⟨⟨⟨h1, h2⟩, h3⟩, h4⟩ := h
      obtain ⟨l1, l2⟩ := loc_of F h2
      have hi : X.N[i]? = some y := by rw [F.N]; exact h1
      split at h4
      · -- a comprehension
        rename_i t G' k l c own
        cases a <;> first | (unfold chk at h3; cases h3; done) | skip
        rename_i elt gens scope pp
        match gens, h3 with
        | [⟨tg, iter, ifs, asy⟩], h3 =>
          have se := chk_ok (g := g) (ce := ce)
          unfold chk at h3
          simp only [Bool.and_eq_true] at h3
          obtain ⟨⟨⟨⟨⟨⟨h0, h1'⟩, h2'⟩, h3'⟩, h4'⟩, h5'⟩, h6'⟩ := h3
          have h0 := of_decide_eq_true h0
          subst h0
          obtain ⟨q1, q2, q3, q4, q6, q7⟩ := lc_parts h1' h2' h3' F G
          have ht : InB X scope fun X' => SE g X' W0 elt (ev ce t) := fun s H C cl fp => (chk_ok t false (cf.blk scope) elt kk _ W0 h4' (q6 s H C cl fp) (q7 s H C cl fp)).1 rfl
          have hc : InB X scope fun X' => sTs g X' ifs (evc ce c) := fun s H C cl fp => by
            split at h6'
            · cases c with
              | none => exact sTs_nil
              | some tc => cases h6'
            · exact chkO'_ok c (cf.blk scope) _ kk _ h6' (q6 s H C cl fp) (q7 s H C cl fp)
            · cases h6'
          split at h5'
          · rename_i es hes
            obtain ⟨n1, n2⟩ := noS_all h5'
            obtain ⟨i1, i2⟩ := iter_si F G hes n1 n2 (chkA_ok l cf es kk X W h5' F G) (fun a ta e1 e2 => chkA1_ok l cf es kk X W h5' F G a ta e1 e2)
            have := ss_setlc (pos := pp) (spos := p) (py := py) G i2 q1 i1 q2 q3 hc ht hi l1 l2 (by rw [F.sc]; exact F.kind)
            rw [q4] at this
            exact this
          · cases h5'
        | [], h3 => unfold chk at h3; cases h3
        | ⟨_, _, _, _⟩ :: _ :: _, h3 => unfold chk at h3; cases h3
      · exact ss_set G hi l1 l2 h4 ((chk_ok t false cf a kk X W h3 F G).1 rfl)
    | [], h => unfold chkS at h; cases h
    | a :: b :: c, h => cases a <;> (unfold chkS at h; cases h)
  | .par is ts, cf, x, kk, X, W, h, F, G, hp => by
    match is, ts, h with
    | [i, j], [ta, tb], h' =>
      clear h
      unfold chkS at h'
      cases q : parP x with
      | none => rw [q] at h'; cases h'
      | some pr =>
        rw [q] at h'
        obtain ⟨y, py, z, pz, va, vb⟩ := pr
        obtain ⟨kt, pt, k2, p2, p, rfl⟩ := parP_eq q
        simp only [Bool.and_eq_true, decide_eq_true_eq] at h'
        obtain ⟨⟨⟨⟨⟨⟨⟨h1, h2⟩, h3⟩, h4⟩, h5⟩, h6⟩, h7⟩, h8⟩ := h'
        unfold swB at h4
        simp only [Bool.and_eq_true, decide_eq_true_eq, Bool.not_eq_true'] at h4
        obtain ⟨⟨⟨⟨⟨w1, w2⟩, w3⟩, w4⟩, w5⟩, w6⟩ := h4
        refine ss_par2 G (by rw [F.N]; exact h1) (by rw [F.N]; exact h2) h3 (by rw [F.sc]; exact w1) (by rw [F.sc]; exact w2) (swB_ok (by rw [F.sc]; exact F.kind) (by rw [F.sc]; exact w1) (by rw [F.sc]; exact w2) w3 w4 w5 w6 h5 h6) ?_
        exact sa_cons ((chk_ok ta false cf va kk X W h7 F G).1 rfl) (sa_cons ((chk_ok tb false cf vb kk X W h8 F G).1 rfl) sa_nil (star1 h6 [] X.env)) (star1 h5 [vb] X.env)
    | [], _, h => unfold chkS at h; cases h
    | [_], _, h => unfold chkS at h; cases h
    | [_, _], [], h => unfold chkS at h; cases h
    | [_, _], [_], h => unfold chkS at h; cases h
    | [_, _], _ :: _ :: _ :: _, h => unfold chkS at h; cases h
    | _ :: _ :: _ :: _, _, h => unfold chkS at h; cases h
  | .unp Gt t, cf, x, kk, X, W, h, F, G, hp => by
    cases Gt with
    | nm i => unfold chkS at h; cases h
    | tp Gs =>
      cases x <;> first | (unfold chkS at h; cases h; done) | skip
      rename_i tgs a p
      match tgs, h with
      | [tg], h =>
        cases tg <;> first | (unfold chkS at h; cases h; done) | skip
        rename_i els kt pt
        unfold chkS at h
        simp only [Bool.and_eq_true] at h
        obtain ⟨⟨⟨h1, h2⟩, h3⟩, h4⟩ := h
        obtain ⟨g1, g2, g3⟩ := tgsB_ok F G Gs els h1
        exact ss_unp (sg_tp G.hK G.calm g2 g3 g1) h2 (unB_ok h3) ((chk_ok t false cf a kk X W h4 F G).1 rfl)
      | [], h => unfold chkS at h; cases h
      | a :: _ :: _, h => cases a <;> (unfold chkS at h; cases h)
  | .sub ta ti tv, cf, x, kk, X, W, h, F, G, hp => by
    cases x <;> first | (unfold chkS at h; cases h; done) | skip
    rename_i tgs a p
    match tgs, h with
    | [tg], h =>
      cases tg <;> first | (unfold chkS at h; cases h; done) | skip
      unfold chkS at h
      simp only [Bool.and_eq_true] at h
      obtain ⟨⟨⟨⟨h1, h2⟩, h3⟩, h4⟩, h5⟩ := h
      exact ss_sub G h1 h2 subB_ok ((chk_ok tv false cf _ kk X W h5 F G).1 rfl) ((chk_ok ta false cf _ kk X W h3 F G).1 rfl) ((chk_ok ti false cf _ kk X W h4 F G).1 rfl)
    | [], h => unfold chkS at h; cases h
    | a :: _ :: _, h => cases a <;> (unfold chkS at h; cases h)
  | .exp t, cf, x, kk, X, W, h, F, G, hp => by
    cases x <;> first | (unfold chkS at h; cases h; done) | skip
    unfold chkS at h
    rw [Bool.and_eq_true] at h
    exact ss_exp ((chk_ok t false cf _ kk X W h.2 F G).1 rfl) (sw_no h.1 _ _ _)
  | .ret t, cf, x, kk, X, W, h, F, G, hp => by
    cases x <;> first | (unfold chkS at h; cases h; done) | skip
    rename_i o p
    cases o with
    | none => unfold chkS at h; cases h
    | some a =>
      unfold chkS at h
      exact ss_ret ((chk_ok t false cf _ kk X W h F G).1 rfl)
  | .retn, cf, x, kk, X, W, h, F, G, hp => by
    cases x <;> first | (unfold chkS at h; cases h; done) | skip
    rename_i o p
    cases o with
    | none => exact ss_retn
    | some a => unfold chkS at h; cases h
  | .ifs c a b, cf, x, kk, X, W, h, F, G, hp => by
    cases x <;> first | (unfold chkS at h; cases h; done) | skip
    unfold chkS at h
    simp only [Bool.and_eq_true] at h
    exact ss_ifs ((chk_ok c true cf _ kk X W h.1.1 F G).2 rfl) (chkSs_ok a cf _ kk X W h.1.2 F G hp) (chkSs_ok b cf _ kk X W h.2 F G hp)
  | .fors Gt k l b, cf, x, kk, X, W, h, F, G, hp => by
    cases x <;> first | (unfold chkS at h; cases h; done) | skip
    rename_i tg iter body els p
    cases els with
    | cons a b => unfold chkS at h; cases h
    | nil =>
      unfold chkS at h
      simp only [Bool.and_eq_true] at h
      obtain ⟨⟨⟨h1, h2⟩, h3⟩, h4⟩ := h
      have hb := chkSs_ok b cf body kk X W h4 F G hp
      split at h3
      · rename_i es hes
        obtain ⟨n1, n2⟩ := noS_all h3
        obtain ⟨i1, i2⟩ := iter_si F G hes n1 n2 (chkA_ok l cf es kk X W h3 F G) (fun a ta e1 e2 => chkA1_ok l cf es kk X W h3 F G a ta e1 e2)
        exact ss_for G hp i2 i1 (tgB_ok F G Gt tg h1) hb
      · cases h3
  | .whl n c b, cf, x, kk, X, W, h, F, G, hp => by
    cases x <;> first | (unfold chkS at h; cases h; done) | skip
    rename_i ec body els p
    cases els with
    | cons a b => unfold chkS at h; cases h
    | nil =>
      unfold chkS at h
      simp only [Bool.and_eq_true] at h
      exact ss_whl hp ((chk_ok c true cf _ kk X W h.1 F G).2 rfl) (chkSs_ok b cf body kk X W h.2 F G hp)
  | .brk, cf, x, kk, X, W, h, F, G, hp => by
    cases x <;> first | (unfold chkS at h; cases h; done) | skip
    exact ss_brk
  | .cnt, cf, x, kk, X, W, h, F, G, hp => by
    cases x <;> first | (unfold chkS at h; cases h; done) | skip
    exact ss_cnt
  | .pas, cf, x, kk, X, W, h, F, G, hp => by
    cases x <;> first | (unfold chkS at h; cases h; done) | skip
    exact ss_pass
  | .bad, cf, x, kk, X, W, h, F, G, hp => ss_bad
termination_by structural s => s
theorem chkSs_ok : ∀ (l : List S) (cf : Cf) (x : List Stmt) (kk : Nat) (X : Cx) (W : WX), chkSs l cf x = true → Fit cf g ce kk X → Good g kk X W → PassesOwn (model X.prog X.w) X.A X.env X.xe → SSs g X W x (exs ce l)
  | [], cf, [], kk, X, W, h, F, G, hp => ss_nil
  | [], cf, _ :: _, kk, X, W, h, F, G, hp => by unfold chkSs at h; cases h
  | _ :: _, cf, [], kk, X, W, h, F, G, hp => by unfold chkSs at h; cases h
  | s :: l, cf, x :: m, kk, X, W, h, F, G, hp => by
    unfold chkSs at h
    rw [Bool.and_eq_true] at h
    exact ss_cons (chkS_ok s cf x kk X W h.1 F G hp) (chkSs_ok l cf m kk X W h.2 F G hp)
termination_by structural l => l
end
end
/-! ### a def -/
section
variable {g : Gx} {ce : CE}
theorem VS.more {Hb H : Hp} {e : VE} {σ : L2.St} (I : VS g Hb e σ H) (n : Nat) : VS g Hb (e ++ List.replicate n .un) (σ ++ List.replicate n none) H ∧ ∀ a, Ow g (e ++ List.replicate n .un) (σ ++ List.replicate n none) a ↔ Ow g e σ a := by
  have at1 : ∀ (i : Nat) s, (e ++ List.replicate n SS.un)[i]? = some s → s ≠ .un → e[i]? = some s := fun i s h ns => by
    by_cases hi : i < e.length
    · rw [List.getElem?_append_left hi] at h; exact h
    · rw [List.getElem?_append_right (by omega)] at h
      rw [List.getElem?_replicate] at h
      split at h
      · cases h; exact absurd rfl ns
      · cases h
  have at2 : ∀ (i : Nat) s, e[i]? = some s → (e ++ List.replicate n SS.un)[i]? = some s := fun i s h => by
    rw [List.getElem?_append_left (List.getElem?_eq_some_iff.mp h).1]; exact h
  have sg : ∀ (i : Nat), i < e.length → (σ ++ List.replicate n none)[i]? = σ[i]? := fun i h => by
    rw [List.getElem?_append_left (by rw [← I.len]; exact h)]
  have li : ∀ (i : Nat) s, e[i]? = some s → i < e.length := fun i s h => (List.getElem?_eq_some_iff.mp h).1
  refine ⟨⟨by simp [I.len], I.ex, fun i d h => ?_, fun i b k c h => ?_, fun i j b k c b' k' c' a h h' s s' => ?_, I.tok, I.tbn⟩, fun a => ⟨?_, ?_⟩⟩
  · have h := at1 i _ h (by simp)
    rw [sg i (li i _ h)]; exact I.dat i d h
  · have h := at1 i _ h (by simp)
    rw [sg i (li i _ h)]; exact I.own i b k c h
  · have h := at1 i _ h (by simp)
    have h' := at1 j _ h' (by simp)
    rw [sg i (li i _ h)] at s
    rw [sg j (li j _ h')] at s'
    exact I.inj i j b k c b' k' c' a h h' s s'
  · rintro (z | ⟨i, b, k, c, z1, z2⟩)
    · exact .inl z
    · have h := at1 i _ z1 (by simp)
      rw [sg i (li i _ h)] at z2
      exact .inr ⟨i, b, k, c, h, z2⟩
  · rintro (z | ⟨i, b, k, c, z1, z2⟩)
    · exact .inl z
    · exact .inr ⟨i, b, k, c, at2 i _ z1, by rw [sg i (li i _ z1)]; exact z2⟩
theorem backA_at : ∀ {as : List Arg} {e : VE} {l : List Arg}, backA as e = some l → l.length = as.length ∧ ∀ (i : Nat) a, as[i]? = some a → ∃ a', l[i]? = some a' ∧ ((∃ d, a = .p d ∧ a' = .p d) ∨ ∃ k c k' c', a = .o k c ∧ e[i]? = some (.own true k' c') ∧ a' = .o k c')
  | [], e, l, h => by unfold backA at h; cases h; exact ⟨rfl, fun i a h => by simp at h⟩
  | a :: as, [], l, h => by unfold backA at h; cases h
  | a :: as, s :: e, l, h => by
    unfold backA at h
    cases a with
    | p d =>
      dsimp only at h
      cases q : backA as e with
      | none => rw [q] at h; cases h
      | some l' =>
        rw [q] at h
        cases h
        obtain ⟨h1, h2⟩ := backA_at q
        refine ⟨by simp [h1], fun i a hi => ?_⟩
        cases i with
        | zero => cases hi; exact ⟨_, rfl, .inl ⟨d, rfl, rfl⟩⟩
        | succ i =>
          obtain ⟨a', z1, z2⟩ := h2 i a (by simpa using hi)
          exact ⟨a', by simpa using z1, by simpa using z2⟩
    | o k c =>
      cases s with
      | un => cases h
      | dat d => cases h
      | own b k' c' =>
        cases b with
        | false => cases h
        | true =>
          dsimp only at h
          cases q : backA as e with
          | none => rw [q] at h; cases h
          | some l' =>
            rw [q] at h
            cases h
            obtain ⟨h1, h2⟩ := backA_at q
            refine ⟨by simp [h1], fun i a hi => ?_⟩
            cases i with
            | zero => cases hi; exact ⟨_, rfl, .inr ⟨k, c, k', c', rfl, rfl, rfl⟩⟩
            | succ i =>
              obtain ⟨a', z1, z2⟩ := h2 i a (by simpa using hi)
              exact ⟨a', by simpa using z1, by simpa using z2⟩
/-- from the end of a body back to its arguments -/
theorem back_ok {Hb H Hb' H' : Hp} {as l : List Arg} {vs : List V} {n : Nat} {σ' : L2.St} {e' : VE} (I : VS g Hb (aE as) (aS vs) H) (sk : SK g (aS vs ++ List.replicate n none) Hb H (aE as ++ List.replicate n .un) σ' Hb' H' e') (h : backA as e' = some l) :
    VP (Ow g (aE as) (aS vs)) Hb H (Ow g (aE l) (aS vs)) Hb' H' ∧ VS g Hb' (aE l) (aS vs) H' ∧ AK as l ∧ (∀ a, Ow g (aE l) (aS vs) a → Ow g e' σ' a) ∧ ∀ a, Ow g (aE as) (aS vs) a → Ow g e' σ' a := by
  obtain ⟨I2, ow2⟩ := I.more n
  obtain ⟨h1, h2⟩ := backA_at h
  have hl : as.length = vs.length := by simpa using I.len
  have base : ∀ (i : Nat) a, as[i]? = some a → (aE as ++ List.replicate n SS.un)[i]? = some a.ss ∧ (aS vs ++ List.replicate n none)[i]? = (aS vs)[i]? := fun i a hi => by
    have hlt := (List.getElem?_eq_some_iff.mp hi).1
    refine ⟨?_, ?_⟩
    · rw [List.getElem?_append_left (by simpa using hlt), List.getElem?_map, hi]; rfl
    · rw [List.getElem?_append_left (by simp; omega)]
  have own : ∀ (i : Nat) k c, as[i]? = some (.o k c) → ∃ c', e'[i]? = some (.own true k c') ∧ σ'[i]? = (aS vs)[i]? ∧ l[i]? = some (.o k c') ∧ (k = true → c' = c) := fun i k c hi => by
    obtain ⟨b1, b2⟩ := base i _ hi
    obtain ⟨c', z1, z2, z3⟩ := sk.ek.at' i true k c b1 (.inl rfl)
    rw [b2] at z2
    refine ⟨c', z1, z2, ?_, z3⟩
    obtain ⟨a', y1, y2⟩ := h2 i _ hi
    rcases y2 with ⟨d, y, _⟩ | ⟨k1, c1, k2, c2, y, y3, rfl⟩
    · cases y
    · cases y
      rw [z1] at y3; cases y3
      exact y1
  have lown : ∀ (i : Nat) b k c', (aE l)[i]? = some (SS.own b k c') → b = true ∧ ∃ c, as[i]? = some (.o k c) ∧ e'[i]? = some (.own true k c') ∧ σ'[i]? = (aS vs)[i]? := fun i b k c' hi => by
    rw [List.getElem?_map] at hi
    cases q : l[i]? with
    | none => rw [q] at hi; cases hi
    | some a =>
      rw [q] at hi
      have hlt : i < as.length := by rw [← h1]; exact (List.getElem?_eq_some_iff.mp q).1
      obtain ⟨a', y1, y2⟩ := h2 i _ (List.getElem?_eq_getElem hlt)
      rw [q] at y1; cases y1
      rcases y2 with ⟨d, y, rfl⟩ | ⟨k1, c1, k2, c2, y, y3, rfl⟩
      · cases hi
      · cases hi
        have hi' : as[i]? = some (.o k c1) := by rw [List.getElem?_eq_getElem hlt, y]
        obtain ⟨c3, z1, z2, z3, _⟩ := own i k c1 hi'
        rw [q] at z3; cases z3
        exact ⟨rfl, c1, hi', z1, z2⟩
  have owl : ∀ a, Ow g (aE l) (aS vs) a → Ow g e' σ' a := fun a z => by
    rcases z with z | ⟨i, b, k, c, z1, z2⟩
    · exact .inl z
    · obtain ⟨rfl, c0, y1, y2, y3⟩ := lown i b k c z1
      exact .inr ⟨i, true, k, c, y2, by rw [y3]; exact z2⟩
  have owa : ∀ a, Ow g (aE as) (aS vs) a → Ow g e' σ' a := fun a z => by
    rcases z with z | ⟨i, b, k, c, z1, z2⟩
    · exact .inl z
    · rw [List.getElem?_map] at z1
      cases q : as[i]? with
      | none => rw [q] at z1; cases z1
      | some ar =>
        rw [q] at z1
        cases ar with
        | p d => cases z1
        | o k' c' =>
          cases z1
          obtain ⟨c2, y1, y2, _, _⟩ := own i _ _ q
          exact .inr ⟨i, true, k, c2, y1, by rw [y2]; exact z2⟩
  have ow3 : ∀ a, Ow g (aE l) (aS vs) a → Ow g (aE as) (aS vs) a := fun a z => by
    rcases z with z | ⟨i, b, k, c, z1, z2⟩
    · exact .inl z
    · obtain ⟨rfl, c0, y1, y2, y3⟩ := lown i b k c z1
      exact .inr ⟨i, true, k, c0, by rw [List.getElem?_map, y1]; rfl, z2⟩
  refine ⟨sk.vp.widen (fun a z => (ow2 a).mp z) (fun a z => .inl (ow3 a z)), ⟨by simp [h1, hl], sk.st.ex, fun i d hi => ?_, fun i b k c hi => ?_, fun i j b k c b' k' c' a hi hj s s' => ?_, sk.st.tok, sk.st.tbn⟩, ⟨h1, fun i a hi => ?_⟩, owl, owa⟩
  · rw [List.getElem?_map] at hi
    cases q : l[i]? with
    | none => rw [q] at hi; cases hi
    | some a =>
      rw [q] at hi
      have hlt : i < as.length := by rw [← h1]; exact (List.getElem?_eq_some_iff.mp q).1
      obtain ⟨a', y1, y2⟩ := h2 i _ (List.getElem?_eq_getElem hlt)
      rw [q] at y1; cases y1
      rcases y2 with ⟨d', y, rfl⟩ | ⟨k1, c1, k2, c2, y, y3, rfl⟩
      · cases hi
        obtain ⟨v, e1, e2⟩ := I.dat i d (by rw [List.getElem?_map, List.getElem?_eq_getElem hlt, y]; rfl)
        exact ⟨v, e1, Rp.mono sk.vp.b d v e2⟩
      · cases hi
  · obtain ⟨rfl, c0, y1, y2, y3⟩ := lown i b k c hi
    obtain ⟨a, e1, e2⟩ := sk.st.own i _ _ _ y2
    rw [y3] at e1
    exact ⟨a, e1, e2⟩
  · obtain ⟨_, c0, y1, y2, y3⟩ := lown i b k c hi
    obtain ⟨_, c1, z1, z2, z3⟩ := lown j b' k' c' hj
    rw [← y3] at s
    rw [← z3] at s'
    exact sk.st.inj i j true k c true k' c' a y2 z2 s s'
  · obtain ⟨a', y1, y2⟩ := h2 i a hi
    rcases y2 with ⟨d, rfl, rfl⟩ | ⟨k1, c1, k2, c2, rfl, y3, rfl⟩
    · exact ⟨_, y1, .same _⟩
    · obtain ⟨c3, z1, z2, z3, z4⟩ := own i k1 c1 hi
      rw [y1] at z3; cases z3
      cases k1 with
      | true => exact ⟨_, y1, by rw [z4 rfl]; exact .same _⟩
      | false => exact ⟨_, y1, .turn c1 c2⟩
/-- a def whose body is checked computes runF -/
theorem fn_T {P : Program} {w : World} {mg : Str → Option Value} {base : Heap} {x qual : Str} {st : Stmt} {f : Addr} {fd : FuncData} {N ps : List Str} {k : Nat} {b : List S} {F : List Arg → RF} (Fn : Fun g.K x qual st f fd) (Sc : FnScope N ps (defScope st)) (hn : ps.length ≤ N.length)
    (hb : ∀ X W, X.prog = P → X.w = w → X.K = g.K → X.mg = mg → X.base = base → X.N = N → X.env.scope = defScope st → (∀ x, X.fn x = true) → Good g k X W → PassesOwn (model X.prog X.w) X.A X.env X.xe → SSs g X W (defBody st) (exs ce b))
    (hF : ∀ as, F as = runF ce N.length b as) : FnOk P w g.K mg base (L2.CX P w) (k + 1) f fd ps (spD g ps.length F) := by
  refine Fn.okX Sc (fun vs H Q E h => h.1) fun cdv A outer s H vs Q E hr h => ?_
  obtain ⟨hl, as, Hb, I, m⟩ := h
  have hal : as.length = vs.length := by simpa using I.len
  generalize hX : cxOf (L2.CX P w) P w g.K mg base N qual (defScope st) f cdv A outer s H E = X
  have tk : Takes X (fun cls d _ H => E cls d H) := by subst hX; exact takes_of rfl rfl rfl rfl
  have pw : PassesOwn (model X.prog X.w) X.A X.env X.xe := by subst hX; exact passes_of rfl
  have G : Good g k X (fun cls d _ H => E cls d H) := by subst hX; exact ⟨rfl, Sc.nd, rfl, tk, hr⟩
  have body := hb X (fun cls d _ H => E cls d H) (by subst hX; rfl) (by subst hX; rfl) (by subst hX; rfl) (by subst hX; rfl) (by subst hX; rfl) (by subst hX; rfl) (by subst hX; rfl) (by subst hX; exact fun _ => rfl) G pw
  refine ⟨_, pss_W X (defBody st), ?_⟩
  obtain ⟨I2, ow2⟩ := I.more (N.length - as.length)
  have hst : L2.start N vs = aS vs ++ List.replicate (N.length - as.length) none := by unfold L2.start; rw [hal]
  rw [hst]
  refine body (aE as ++ List.replicate (N.length - as.length) .un) _ Hb H _ I2 ?_
  rw [hF] at m
  unfold runF at m
  cases q : exs ce b (as.map Arg.ss ++ List.replicate (N.length - as.length) .un) with
  | no => rw [q] at m; exact (show False from m).elim
  | bk e' => rw [q] at m; exact (show False from m).elim
  | ct e' => rw [q] at m; exact (show False from m).elim
  | nx e' =>
    rw [q] at m
    unfold runO at m
    intro σ' Hb' H' sk
    cases q2 : backA as e' with
    | none => dsimp only at m; rw [q2] at m; exact m.elim
    | some l =>
      dsimp only at m
      rw [q2] at m
      obtain ⟨z1, z2, z3, z4, z5⟩ := back_ok I sk q2
      exact m .non Hb' H' z1 z2 z3 rfl
  | rz xd e' =>
    rw [q] at m
    unfold runO at m
    intro cls d σ' Hb' H' sk rx
    cases q2 : backA as e' with
    | none => dsimp only at m; rw [q2] at m; exact m.elim
    | some l =>
      dsimp only at m
      rw [q2] at m
      obtain ⟨z1, z2, z3, z4, z5⟩ := back_ok I sk q2
      exact m cls d Hb' H' z1 z2 z3 rx
  | rt r e' =>
    rw [q] at m
    unfold runO at m
    intro x σ' Hb' H' sk rv
    cases q2 : backA as e' with
    | none => dsimp only at m; rw [q2] at m; exact m.elim
    | some l =>
      dsimp only at m
      rw [q2] at m
      obtain ⟨z1, z2, z3, z4, z5⟩ := back_ok I sk q2
      refine m x Hb' H' z1 z2 z3 ?_
      cases r with
      | p d => exact rv
      | fr c =>
        obtain ⟨a, rfl, h0, h1, h2, h3⟩ := rv
        refine ⟨a, rfl, ?_, h1, h2, fun z => h3 (z4 a z)⟩
        rcases h0 with h0 | h0
        · exact h0
        · exact absurd (z5 a ((ow2 a).mp h0)) h3
end
end Vd
/-! Vd21: a text's defs, its law. -/
namespace Vd
open PySem PySem.Spec PyProof.Rows L2
/-- nothing but the written part is known -/
def g0 (K : PySem.W.Frag) : Gx := ⟨K, fun _ => 0, fun _ => "", fun _ => False, fun _ => True, fun _ _ _ _ _ _ => trivial⟩
section
variable {P : Program} {w : World} {mg : Str → Option Value} {base : Heap} {g : Gx} {ce : CE}
/-- the def named x computes F of n arguments, k calls deep -/
def FD (P : Program) (w : World) (mg : Str → Option Value) (base : Heap) (g : Gx) (x : Str) (F : List Arg → RF) (n k : Nat) : Prop :=
  ∃ addr fd ps, FnOk P w g.K mg base (L2.CX P w) k addr fd ps (spD g ps.length F) ∧ mg x = some (.ref addr) ∧ PySem.W.keepIn g.K (.ref addr) = true ∧ Binds g.K fd ps [] ∧ ps.length = n
def fsAll (P : Program) (w : World) (mg : Str → Option Value) (base : Heap) (g : Gx) (ce : CE) (k : Nat) : List (Str × Nat × Nat) → Prop
  | [] => True
  | (x, f, n) :: l => (∃ k', k' ≤ k ∧ FD P w mg base g x (ce.fn f) n k') ∧ fsAll P w mg base g ce k l
def csAll (mg : Str → Option Value) (g : Gx) (ce : CE) : List (Str × Nat) → Prop
  | [] => True
  | (x, c) :: l => (∃ u v, mg x = some u ∧ RelV v u ∧ ∀ Hb, Rp g Hb (ce.con c) v) ∧ csAll mg g ce l
def bsAll (mg : Str → Option Value) : List Str → Prop
  | [] => True
  | x :: l => mg x = none ∧ bsAll mg l
theorem fsAll_of {k : Nat} : ∀ {l : List (Str × Nat × Nat)}, fsAll P w mg base g ce k l → ∀ x f n, (x, f, n) ∈ l → ∃ k', k' ≤ k ∧ FD P w mg base g x (ce.fn f) n k'
  | [], _, x, f, n, m => by cases m
  | (y, f', n') :: l, h, x, f, n, m => by
    rcases List.mem_cons.mp m with e | m
    · cases e; exact h.1
    · exact fsAll_of h.2 x f n m
theorem csAll_of : ∀ {l : List (Str × Nat)}, csAll mg g ce l → ∀ x c, (x, c) ∈ l → ∃ u v, mg x = some u ∧ RelV v u ∧ ∀ Hb, Rp g Hb (ce.con c) v
  | [], _, x, c, m => by cases m
  | (y, c') :: l, h, x, c, m => by
    rcases List.mem_cons.mp m with e | m
    · cases e; exact h.1
    · exact csAll_of h.2 x c m
theorem bsAll_of : ∀ {l : List Str}, bsAll mg l → ∀ x ∈ l, mg x = none
  | [], _, x, m => by cases m
  | y :: l, h, x, m => by
    rcases List.mem_cons.mp m with e | m
    · rw [e]; exact h.1
    · exact bsAll_of h.2 x m
/-- what a def's own name adds: no more than it says -/
theorem def_ok {cf : Cf} {x qual : Str} {st : Stmt} {f : Addr} {fd : FuncData} {ps : List Str} {k : Nat} {b : List S} (Fn : Fun g.K x qual st f fd) (Sc : FnScope cf.N ps (defScope st)) (hn : ps.length ≤ cf.N.length) (hsc : cf.sc = defScope st) (hchk : chkSs b cf (defBody st) = true)
    (fs : fsAll P w mg base g ce k cf.fs) (cs : csAll mg g ce cf.cs) (bs : bsAll mg cf.bs) : FnOk P w g.K mg base (L2.CX P w) (k + 1) f fd ps (spD g ps.length (runF ce cf.N.length b)) := by
  refine fn_T Fn Sc hn (fun X W h1 h2 h3 h4 h5 h6 h7 h8 G hp => ?_) (fun _ => rfl)
  subst h1 h2 h4 h5
  refine chkSs_ok b cf _ k X W hchk ⟨h6, by rw [h7, hsc], by rw [hsc]; exact Sc.kind, fun x _ _ => h8 x, fun x f n m => ?_, csAll_of cs, bsAll_of bs⟩ G hp
  obtain ⟨k', hk, addr, fd, ps, q1, q2, q3, q4, q5⟩ := fsAll_of fs x f n m
  rw [← h3] at q1 q3 q4
  exact ⟨k', addr, fd, ps, q1, hk, q2, q3, q4, q5⟩
theorem fd_ok {cf : Cf} {x qual : Str} {st : Stmt} {f : Addr} {fd : FuncData} {ps : List Str} {k : Nat} {b : List S} (Fn : Fun g.K x qual st f fd) (hm : mg x = some (.ref f)) (hb : Binds g.K fd ps []) (Sc : FnScope cf.N ps (defScope st)) (hn : ps.length ≤ cf.N.length) (hsc : cf.sc = defScope st) (hchk : chkSs b cf (defBody st) = true)
    (fs : fsAll P w mg base g ce k cf.fs) (cs : csAll mg g ce cf.cs) (bs : bsAll mg cf.bs) : FD P w mg base g x (runF ce cf.N.length b) ps.length (k + 1) :=
  ⟨f, fd, ps, def_ok Fn Sc hn hsc hchk fs cs bs, hm, Fn.kp, hb, rfl⟩
theorem con_int {i : Int} {t : Tok} {x : Str} {c : Nat} (h : mg x = some (.int i t)) (hc : ce.con c = .int i) : ∃ u v, mg x = some u ∧ RelV v u ∧ ∀ Hb, Rp g Hb (ce.con c) v := ⟨_, .int i, h, ⟨t, rfl⟩, fun Hb => by rw [hc]; rfl⟩
theorem con_str {l : List Nat} {s : Str} {t : Tok} {x : Str} {c : Nat} (h : mg x = some (.str s t)) (hs : sT l = s) (hl : l.length ≤ line) (hc : ce.con c = .str l) : ∃ u v, mg x = some u ∧ RelV v u ∧ ∀ Hb, Rp g Hb (ce.con c) v := ⟨_, .str s, h, ⟨t, rfl⟩, fun Hb => by rw [hc]; exact ⟨by rw [hs], by rw [← line_eq]; exact hl⟩⟩
end
theorem ints_rps {g : Gx} {H : Hp} : ∀ ns : List Int, Rps g H (ns.map D.int) (ns.map V.int)
  | [] => rfl
  | n :: ns => ⟨_, _, rfl, rfl, ints_rps ns⟩
/-- the law's promise, from what it computes -/
theorem law_sp {K : PySem.W.Frag} {F : List Arg → RF} (n : Nat) (hF : ∀ ns : List Int, ns.length ≤ n → ∃ l, F [.p (.lst (ns.map D.int))] = .ok (.p (.bl true)) l) {H : Hp} {a : Addr} {ns : List Int} (hl : ns.length ≤ n) (hS : SqL K H a (ns.map V.int)) :
    spD (g0 K) 1 F [.ref a] H (fun v _ => v = .bl true) (fun _ _ _ => False) := by
  obtain ⟨l, e⟩ := hF ns hl
  refine ⟨rfl, [.p (.lst (ns.map D.int))], H, ⟨rfl, .refl H, fun i d h => ?_, fun i b k c h => ?_, fun i j b k c b' k' c' a h => ?_, trivial, fun a h => h.elim⟩, ?_⟩
  · match i, h with
    | 0, h => cases h; exact ⟨_, rfl, a, _, rfl, hS, ints_rps ns⟩
    | i + 1, h => simp [aE] at h
  · match i, h with
    | 0, h => cases h
    | i + 1, h => simp [aE] at h
  · match i, h with
    | 0, h => cases h
    | i + 1, h => simp [aE] at h
  · rw [e]
    exact fun x Hb' H' _ _ _ rv => rv
theorem cx_no {P : Program} {w : World} {H : Hp} {s : Shared} {e : Value} {s' : Shared} (h : L2.CX P w [] H s (fun _ _ _ => False) e s') : False := by
  obtain ⟨a, B, H', cls, d, _, _, _, _, _, _, _, z⟩ := h
  exact z
end Vd
/-! Vd22: the draws that all laws share. -/
namespace Vd
/-- what evaluates -/
theorem runF_def (ce : CE) (n : Nat) (b : List S) (as : List Arg) : runF ce n b as = runO as (exs ce b (as.map Arg.ss ++ List.replicate (n - as.length) .un)) := rfl
def bMixed : List S := [
    .set 2 (.bin .mod (.bi .int [(.bin .add (.bin .add (.bin .add (.bin .mod (.bi .int [(.var 0)]) (.int 1000000007)) (.bin .mul (.bin .mul (.int 7919) (.var 1)) (.var 1))) (.bin .mul (.int 31) (.var 1))) (.int 7))]) (.int 2147483647)),
    .set 2 (.bin .mod (.bi .int [(.bin .mul (.bin .mod (.bi .int [(.bin .mul (.var 2) (.var 2))]) (.int 2147483647)) (.var 2))]) (.int 2147483629)),
    .ret (.bin .fdiv (.bin .mod (.bi .int [(.bin .mul (.var 2) (.bin .add (.int 69621) (.bin .mul (.int 2) (.bin .mod (.bi .int [(.var 1)]) (.int 1000)))))]) (.int 2147483647)) (.int 7))]
theorem mul_s1 {i j : Int} (h : -big < i ∧ i < big) : bop .mul (.int i) (.int j) = some (.p (.int (i * j))) := by simp [bop, h]
theorem mul_s2 {i j : Int} (h : -big < j ∧ j < big) : bop .mul (.int i) (.int j) = some (.p (.int (i * j))) := by simp [bop, h]
theorem mod_s {i j : Int} (h : 0 < j) : bop .mod (.int i) (.int j) = some (.p (.int (i % j))) := by simp [bop, h]
theorem fdiv_s {i j : Int} (h : 0 < j ∧ j < 1073741824) : bop .fdiv (.int i) (.int j) = some (.p (.int (i / j))) := by simp [bop, h]
theorem mixed_ok (ce : CE) (c k : Int) (h0 : 0 ≤ k) (h1 : k < 2 ^ 63) : ∃ r : Int, runF ce 3 bMixed [.p (.int c), .p (.int k)] = .ok (.p (.int r)) [.p (.int c), .p (.int k)] ∧ 0 ≤ r ∧ r < 2 ^ 31 := by
  have hk : -big < k ∧ k < big := by unfold big; omega
  have hm : ∀ x : Int, -big < x % 2147483647 ∧ x % 2147483647 < big := fun x => by unfold big; omega
  have hm2 : ∀ x : Int, -big < x % 2147483629 ∧ x % 2147483629 < big := fun x => by unfold big; omega
  have hm3 : ∀ x : Int, -big < x % 1000 ∧ x % 1000 < big := fun x => by unfold big; omega
  simp [runF_def, bMixed, exs, ex, ev, evs, Arg.ss, op2, rd, rds, bfn, setV, putS, SS.free, retV, runO, backA, mod_s, mul_s1, mul_s2, fdiv_s, hk, hm, hm2, hm3, bop, ofX]
  constructor <;> omega
/-! ### the draws -/
def kC : DK := .inr [99, 101, 108, 108, 115]
def kA : DK := .inr [97, 116]
def kL : DK := .inr [108, 101, 102, 116]
def kU : DK := .inr [117, 115, 101, 100]
/-- the draws' dict -/
def dr (cs : List Int) (a l u : Int) : List (DK × D) := [(.inr [99, 101, 108, 108, 115], .lst (cs.map .int)), (.inr [97, 116], .int a), (.inr [108, 101, 102, 116], .int l), (.inr [117, 115, 101, 100], .int u)]
def bBegin : List S := [
    .ret (.dct [.inr [99, 101, 108, 108, 115], .inr [97, 116], .inr [108, 101, 102, 116], .inr [117, 115, 101, 100]] [(.bin .add (.var 0) (.lst [(.int 0)])), (.int 0), (.int 0), (.int 0)])]
theorem lt_line {n : Nat} (h : n < 16777216) : n < line := h
theorem le_line {n : Nat} (h : n ≤ 16777216) : n ≤ line := h
theorem begin_ok (ce : CE) (ns : List Int) (h : ns.length ≤ 100) : runF ce 1 bBegin [.p (.lst (ns.map .int))] = .ok (.fr (.od (dr (ns ++ [0]) 0 0 0))) [.p (.lst (ns.map .int))] := by
  have hl : ns.length + 1 ≤ line := by unfold line; omega
  simp [runF_def, bBegin, exs, ex, ev, evs, Arg.ss, op2, rd, retV, runO, backA, bop, fz, fzs, short, le_line, mkD, putD, hl, dr, OC.toD]
def bNext (i : Nat) : List S := [
    .ifs (.cmp .gt (.ix (.var 0) (.str [108, 101, 102, 116])) (.int 0))
    [.set 2 (.bin .mod (.bi .int [(.ix (.var 0) (.str [108, 101, 102, 116]))]) (.var 1)),
    .sub (.var 0) (.str [108, 101, 102, 116]) (.bin .fdiv (.ix (.var 0) (.str [108, 101, 102, 116])) (.var 1)),
    .ret (.var 2)]
    [],
    .set 3 (.ix (.var 0) (.str [99, 101, 108, 108, 115])),
    .set 4 (.ix (.var 3) (.bin .mod (.bi .int [(.ix (.var 0) (.str [97, 116]))]) (.bi .len [(.var 3)]))),
    .sub (.var 0) (.str [97, 116]) (.bin .add (.ix (.var 0) (.str [97, 116])) (.int 1)),
    .ifs (.and (.cmp .ge (.var 4) (.bin .pow (.int 10) (.int 18))) (.cmp .le (.ix (.var 0) (.str [97, 116])) (.bi .len [(.var 3)])))
    [.sub (.var 0) (.str [108, 101, 102, 116]) (.bin .fdiv (.var 4) (.var 1)),
    .ret (.bin .mod (.bi .int [(.var 4)]) (.var 1))]
    [],
    .sub (.var 0) (.str [117, 115, 101, 100]) (.bin .add (.ix (.var 0) (.str [117, 115, 101, 100])) (.int 1)),
    .ret (.bin .mod (.bi .int [(.call i [(.call i [(.var 4), (.ix (.var 0) (.str [97, 116]))]), (.ix (.var 0) (.str [117, 115, 101, 100]))])]) (.var 1))]
/-- a draw: what it may find, what it leaves -/
theorem next_ok (ce : CE) (i : Nat) (ce' : CE) (hi : ce.fn i = runF ce' 3 bMixed) (cs : List Int) (hc : cs ≠ []) (hl : cs.length ≤ 101) (a l u : Int) (h0 : 0 ≤ a) (h1 : a < 2 ^ 62) (h2 : 0 ≤ u) (h3 : u < 2 ^ 62) (h4 : 0 ≤ l) (b : Int) (hb : 0 < b) (hb2 : b < 1073741824) :
    ∃ r a' l' u' : Int, runF ce 5 (bNext i) [.o false (.od (dr cs a l u)), .p (.int b)] = .ok (.p (.int r)) [.o false (.od (dr cs a' l' u')), .p (.int b)] ∧ 0 ≤ r ∧ r < b ∧ a ≤ a' ∧ a' ≤ a + 1 ∧ 0 ≤ l' ∧ u ≤ u' ∧ u' ≤ u + 1 := by
  by_cases hl0 : 0 < l
  · refine ⟨l % b, a, l / b, u, ?_, ?_⟩
    · simp [runF_def, bNext, exs, ex, ev, evs, evT, Arg.ss, op1, op2, rd, rds, bfn, setV, putS, SS.free, SS.rd, retV, runO, backA, mod_s, fdiv_s, ofX, cop, item, keyOf, look, dr, OC.toD, hl0, tru, hb, hb2, subV, fz, putD, blV, lt_line]
    · refine ⟨Int.emod_nonneg _ (by omega), Int.emod_lt_of_pos _ hb, by omega, by omega, Int.ediv_nonneg h4 (by omega), by omega, by omega⟩
  · have hl1 : l = 0 := by omega
    subst hl1
    have hpos : (0 : Int) < cs.length := by
      have := List.length_pos_iff.mpr hc
      omega
    have hm0 := Int.emod_nonneg a (show (cs.length : Int) ≠ 0 by omega)
    have hm1 := Int.emod_lt_of_pos a hpos
    obtain ⟨c, hcell⟩ : ∃ c, ((ixn cs.length (a % (cs.length : Int))).bind fun j => cs[j]?) = some c := by
      unfold ixn
      rw [if_pos hm0, if_pos hm1]
      have : (a % (cs.length : Int)).toNat < cs.length := by omega
      exact ⟨_, List.getElem?_eq_getElem this⟩
    have hcell2 : ((ixn cs.length (a % (cs.length : Int))).bind fun j => Option.map D.int cs[j]?) = some (.int c) := by
      cases q : ixn cs.length (a % (cs.length : Int)) with
      | none => rw [q] at hcell; cases hcell
      | some j =>
        rw [q] at hcell
        have hcell' : cs[j]? = some c := hcell
        simp [hcell']
    have hpos' : 0 < cs.length := by omega
    by_cases h5 : 1000000000000000000 ≤ c ∧ a + 1 ≤ cs.length
    · obtain ⟨h5, h6⟩ := h5
      refine ⟨c % b, a + 1, c / b, u, ?_, ?_⟩
      · rw [runF_def]
        simp [bNext, exs, ex, ev, evs, evT, Arg.ss, op1, op2, rd, rds, bfn, lenD, setV, putS, SS.free, SS.rd, retV, runO, backA, mod_s, fdiv_s, ofX, cop, item, keyOf, look, dr, OC.toD, tru, hb, hb2, subV, fz, putD, blV, lt_line, bop, hpos, hpos', hcell2, h5, h6]
      · refine ⟨Int.emod_nonneg _ (by omega), Int.emod_lt_of_pos _ hb, by omega, by omega, Int.ediv_nonneg (by omega) (by omega), by omega, by omega⟩
    · obtain ⟨r1, e1, z1, z2⟩ := mixed_ok ce' c (a + 1) (by omega) (by omega)
      obtain ⟨r2, e2, z3, z4⟩ := mixed_ok ce' r1 (u + 1) (by omega) (by omega)
      refine ⟨r2 % b, a + 1, 0, u + 1, ?_, ?_⟩
      · rw [runF_def]
        by_cases h6 : 1000000000000000000 ≤ c
        · have h7 : ¬ a + 1 ≤ cs.length := fun z => h5 ⟨h6, z⟩
          simp [bNext, exs, ex, ev, evs, evT, Arg.ss, op1, op2, rd, rds, bfn, lenD, setV, putS, SS.free, SS.rd, retV, runO, backA, mod_s, fdiv_s, ofX, cop, item, keyOf, look, dr, OC.toD, tru, hb, hb2, subV, fz, putD, blV, lt_line, bop, hpos, hpos', hcell2, h6, h7, callR, vws, argsOf, argOf, putA, Ret.val, hi, e1, e2]
        · simp [bNext, exs, ex, ev, evs, evT, Arg.ss, op1, op2, rd, rds, bfn, lenD, setV, putS, SS.free, SS.rd, retV, runO, backA, mod_s, fdiv_s, ofX, cop, item, keyOf, look, dr, OC.toD, tru, hb, hb2, subV, fz, putD, blV, lt_line, bop, hpos, hpos', hcell2, h6, callR, vws, argsOf, argOf, putA, Ret.val, hi, e1, e2]
      · refine ⟨Int.emod_nonneg _ (by omega), Int.emod_lt_of_pos _ hb, by omega, by omega, by omega, by omega, by omega⟩
end Vd
/-! Vd23: rows of draws. -/
namespace Vd
/-- the draws' dict, n draws done -/
structure DS (cs : List Int) (n : Nat) (o : OC) : Prop where
  ne : cs ≠ []
  len : cs.length ≤ 101
  at' : ∃ a l u : Int, o = .od (dr cs a l u) ∧ 0 ≤ a ∧ a ≤ n ∧ 0 ≤ u ∧ u ≤ n ∧ 0 ≤ l
/-- F draws -/
def Draws (F : List Arg → RF) : Prop := ∀ (cs : List Int) (n : Nat) (o : OC) (b : Int), DS cs n o → n < 2 ^ 61 → 0 < b → b < 1073741824 → ∃ (r : Int) (o' : OC), F [.o false o, .p (.int b)] = .ok (.p (.int r)) [.o false o', .p (.int b)] ∧ DS cs (n + 1) o' ∧ 0 ≤ r ∧ r < b
theorem draws_ok {ce ce' : CE} {i : Nat} (hi : ce.fn i = runF ce' 3 bMixed) : Draws (runF ce 5 (bNext i)) := by
  intro cs n o b D hn hb hb2
  obtain ⟨a, l, u, rfl, h1, h2, h3, h4, h5⟩ := D.at'
  obtain ⟨r, a', l', u', e, z1, z2, z3, z4, z5, z6, z7⟩ := next_ok ce i ce' hi cs D.ne D.len a l u h1 (by omega) h3 (by omega) h5 b hb hb2
  exact ⟨r, _, e, ⟨D.ne, D.len, a', l', u', rfl, by omega, by omega, by omega, by omega, z5⟩, z1, z2⟩
theorem begin_ds {ce : CE} {ns : List Int} (h : ns.length ≤ 100) : ∃ o, runF ce 1 bBegin [.p (.lst (ns.map .int))] = .ok (.fr o) [.p (.lst (ns.map .int))] ∧ DS (ns ++ [0]) 0 o :=
  ⟨_, begin_ok ce ns h, ⟨by simp, by simp; omega, 0, 0, 0, rfl, by omega, by simp, by omega, by simp, by omega⟩⟩
/-- one draw from the frame -/
theorem draw_call {ce : CE} {f : Nat} (hF : Draws (ce.fn f)) {e : VE} {j : Nat} {bb : Bool} {cs : List Int} {n : Nat} {o : OC} {b : Int} (hj : e[j]? = some (.own bb false o)) (D : DS cs n o) (hn : n < 2 ^ 61) (hb : 0 < b) (hb2 : b < 1073741824) :
    ∃ (r : Int) (o' : OC), callR ce f [.vw j, .p (.int b)] e = .ok (.p (.int r)) (e.set j (.own bb false o')) ∧ DS cs (n + 1) o' ∧ 0 ≤ r ∧ r < b := by
  obtain ⟨r, o', h1, h2, h3, h4⟩ := hF cs n o b D hn hb hb2
  refine ⟨r, o', ?_, h2, h3, h4⟩
  have hm : e.modify j (SS.put o') = e.set j (.own bb false o') := by
    apply List.ext_getElem?
    intro k
    by_cases z : j = k
    · subst z
      rw [mod_eq hj, List.getElem?_set_self (List.getElem?_eq_some_iff.mp hj).1]
      rfl
    · rw [mod_ne z, List.getElem?_set_ne z]
  simp [callR, vws, argsOf, argOf, hj, h1, putA, hm, Ret.val]
theorem ev_draw {ce : CE} {f : Nat} (hF : Draws (ce.fn f)) {e : VE} {j : Nat} {bb : Bool} {cs : List Int} {n : Nat} {o : OC} {b : Int} {tb : T} (htb : ev ce tb e = .ok (.p (.int b)) e) (hj : e[j]? = some (.own bb false o)) (D : DS cs n o) (hn : n < 2 ^ 61) (hb : 0 < b) (hb2 : b < 1073741824) :
    ∃ (r : Int) (o' : OC), ev ce (.call f [.var j, tb]) e = .ok (.p (.int r)) (e.set j (.own bb false o')) ∧ DS cs (n + 1) o' ∧ 0 ≤ r ∧ r < b := by
  obtain ⟨r, o', h1, h2⟩ := draw_call hF hj D hn hb hb2
  exact ⟨r, o', by simp [ev, evs, hj, htb, h1], h2⟩
/-- the turns of a comprehension that draws -/
theorem lc_draws {ce : CE} {f : Nat} (hF : Draws (ce.fn f)) {j c : Nat} (hjc : j ≠ c) {cs : List Int} {b : Int} {tb : T} (hb : 0 < b) (hb2 : b < 1073741824) {bb : Bool} :
    ∀ (its : List D) (n : Nat) (o : OC) (e : VE), (∀ o' d, ev ce tb ((e.set c (.dat d)).set j (.own bb false o')) = .ok (.p (.int b)) ((e.set c (.dat d)).set j (.own bb false o'))) → e[j]? = some (.own bb false o) → e[c]? = some .un → DS cs n o → n + its.length < 2 ^ 61 →
      ∃ (rs : List Int) (o' : OC), lcF (lcT ce (.nm c) none (.call f [.var j, tb]) [c]) its e = .ok (rs.map .int) (e.set j (.own bb false o')) ∧ DS cs (n + its.length) o' ∧ rs.length = its.length ∧ ∀ r ∈ rs, 0 ≤ r ∧ r < b
  | [], n, o, e, _, hj, hc, D, _ => ⟨[], o, by
      rw [lcF]
      have : e.set j (.own bb false o) = e := by
        apply List.ext_getElem?
        intro k
        by_cases z : j = k
        · subst z; rw [List.getElem?_set_self (List.getElem?_eq_some_iff.mp hj).1, hj]
        · rw [List.getElem?_set_ne z]
      rw [this]; rfl, D, rfl, fun r h => by simp at h⟩
  | d :: its, n, o, e, htb, hj, hc, D, hn => by
    have hcl : c < e.length := (List.getElem?_eq_some_iff.mp hc).1
    have hjl : j < e.length := (List.getElem?_eq_some_iff.mp hj).1
    have hj1 : (e.set c (.dat d))[j]? = some (.own bb false o) := by rw [List.getElem?_set_ne (Ne.symm hjc)]; exact hj
    have e0 : (e.set c (.dat d)).set j (.own bb false o) = e.set c (.dat d) := by
      apply List.ext_getElem?
      intro k
      by_cases z : j = k
      · subst z; rw [List.getElem?_set_self (by simpa using hjl), hj1]
      · rw [List.getElem?_set_ne z]
    obtain ⟨r, o1, q1, D1, r0, r1⟩ := ev_draw hF (e := e.set c (.dat d)) (tb := tb) (by have := htb o d; rw [e0] at this; exact this) hj1 D (by simp at hn; omega) hb hb2
    have hback : wipeE [c] ((e.set c (.dat d)).set j (.own bb false o1)) = e.set j (.own bb false o1) := by
      apply List.ext_getElem?
      intro k
      rw [wipeE_at]
      by_cases z : c = k
      · subst z
        rw [if_pos (by simp), List.getElem?_set_ne hjc, List.getElem?_set_self hcl, List.getElem?_set_ne hjc, hc]
        rfl
      · rw [if_neg (by simp; exact fun w => z w.symm)]
        by_cases z2 : j = k
        · subst z2
          rw [List.getElem?_set_self (by simpa using hjl), List.getElem?_set_self hjl]
        · rw [List.getElem?_set_ne z2, List.getElem?_set_ne z, List.getElem?_set_ne z2]
    have turn : lcT ce (.nm c) none (.call f [.var j, tb]) [c] d e = .ok (some (.int r)) (e.set j (.own bb false o1)) := by
      have hput : bindG (.nm c) d e = some (e.set c (.dat d)) := by simp [bindG, putS, hc, SS.free]
      unfold lcT
      simp only [hput, ofO_some, R.bind_ok, evc, if_true, q1, fz, ofP_some]
      rw [hback]
    obtain ⟨rs, o2, q2, D2, l2, h2⟩ := lc_draws hF hjc hb hb2 its (n + 1) o1 (e.set j (.own bb false o1)) (fun o' d' => by
        have h := htb o' d'
        have : ((e.set j (.own bb false o1)).set c (.dat d')).set j (.own bb false o') = (e.set c (.dat d')).set j (.own bb false o') := by
          rw [List.set_comm _ _ hjc, List.set_set]
        rw [this]; exact h) (List.getElem?_set_self hjl) (by rw [List.getElem?_set_ne hjc]; exact hc) D1 (by simp at hn; omega)
    refine ⟨r :: rs, o2, ?_, by rw [List.length_cons, show n + (its.length + 1) = n + 1 + its.length by omega]; exact D2, by simp [l2], fun x hx => ?_⟩
    · rw [lcF, turn]
      simp only [R.bind_ok]
      rw [q2]
      simp only [R.bind_ok, List.set_set]
      rfl
    · rcases List.mem_cons.mp hx with rfl | hx
      · exact ⟨r0, r1⟩
      · exact h2 x hx
theorem set_self {e : VE} {k : Nat} {s : SS} (h : e[k]? = some s) : e.set k s = e := by
  apply List.ext_getElem?
  intro i
  by_cases z : k = i
  · subst z; rw [List.getElem?_set_self (List.getElem?_eq_some_iff.mp h).1, h]
  · rw [List.getElem?_set_ne z]
/-- a row of draws: [draw(j, b) for c in range(m)] -/
theorem ev_lc_draws {ce : CE} {f : Nat} (hF : Draws (ce.fn f)) {j c : Nat} (hjc : j ≠ c) {cs : List Int} {b m : Int} {ta tb : T} (hb : 0 < b) (hb2 : b < 1073741824) {bb : Bool} {n : Nat} {o : OC} {e e1 : VE} {s : SS} (hta : ev ce ta e = .ok (.p (.int m)) e1) (hm : 0 ≤ m) (hm2 : m ≤ 100000)
    (htb : ∀ o' d, ev ce tb ((e1.set c (.dat d)).set j (.own bb false o')) = .ok (.p (.int b)) ((e1.set c (.dat d)).set j (.own bb false o'))) (hj : e1[j]? = some (.own bb false o)) (hc : e1[c]? = some s) (D : DS cs n o) (hn : n + m.toNat < 2 ^ 61) :
    ∃ (rs : List Int) (o' : OC), ev ce (.lc (.call f [.var j, tb]) (.nm c) .rng [ta] none [c]) e = .ok (.fr (.ol (rs.map .int))) (e1.set j (.own bb false o')) ∧ DS cs (n + m.toNat) o' ∧ rs.length = m.toNat ∧ ∀ r ∈ rs, 0 ≤ r ∧ r < b := by
  have hcl : c < e1.length := (List.getElem?_eq_some_iff.mp hc).1
  have hit : itOf .rng [.int m] = some ((List.range m.toNat).map fun k => .int (k : Nat)) := by
    show rngOf [.int m] = _
    unfold rngOf
    have : -(2 ^ 61) ≤ m ∧ m ≤ (line : Int) := by unfold line; omega
    simp only [this, and_self, if_true]
  have hw : wipeE [c] e1 = e1.set c .un := rfl
  obtain ⟨rs, o', q, D', l', h'⟩ := lc_draws hF hjc hb hb2 (tb := tb) ((List.range m.toNat).map fun k => .int (k : Nat)) n o (e1.set c .un) (fun o' d => by
      rw [List.set_set]; exact htb o' d) (by rw [List.getElem?_set_ne (Ne.symm hjc)]; exact hj) (List.getElem?_set_self hcl) D (by simpa using hn)
  have hln : ((List.range m.toNat).map fun k => (Vd.D.int (k : Nat))).length = m.toNat := by simp
  rw [hln] at D' l'
  refine ⟨rs, o', ?_, D', l', h'⟩
  have hback : backE e1 [c] ((e1.set c .un).set j (.own bb false o')) = e1.set j (.own bb false o') := by
    show ((e1.set c .un).set j (.own bb false o')).set c ((e1[c]?).getD .un) = _
    rw [hc, Option.getD_some, List.set_comm _ _ hjc, List.set_set, set_self hc]
  have hlen : (rs.map Vd.D.int).length ≤ line := by
    rw [List.length_map, l']
    unfold line; omega
  rw [ev]
  have h1 : (evs ce [ta] e).bind (itsOf .rng) = .ok ([.p (.int m)], (List.range m.toNat).map fun k => .int (k : Nat)) e1 := by
    simp only [evs, hta, R.bind_ok, itsOf, rds, rd, Option.bind, Option.map, hit, ofO_some]
  rw [h1]
  simp only [R.bind_ok]
  have h2 : vws [.p (.int m)] = [] := rfl
  rw [h2]
  have h3 : lockE [] e1 = e1 := rfl
  rw [h3, hw]
  have h4 : lcF (fun d e => (ofO (bindG (.nm c) d e) e).bind fun e' _ => (evc ce none e').bind fun b e => if b = true then (ev ce (.call f [.var j, tb]) e).bind fun v e => (ofP (fz e v)).bind fun d e => .ok (some d) (wipeE [c] e) else .ok none (wipeE [c] e)) ((List.range m.toNat).map fun k => .int (k : Nat)) (e1.set c .un) = .ok (rs.map .int) ((e1.set c .un).set j (.own bb false o')) := q
  rw [h4]
  simp only [R.calm_ok, R.bind_ok, hback]
  rw [if_pos hlen]
  rfl
@[simp] theorem free_un : SS.un.free = true := rfl
@[simp] theorem free_dat (d : D) : (SS.dat d).free = true := rfl
@[simp] theorem free_own (c : OC) : (SS.own false false c).free = true := rfl
theorem exs_cons (ce : CE) (s : S) (l : List S) (e : VE) : exs ce (s :: l) e = (ex ce s e).then (exs ce l) := by rw [exs]
theorem exs_nil (ce : CE) (e : VE) : exs ce [] e = .nx e := by rw [exs]
theorem exs_nx {ce : CE} {s : S} {l : List S} {e e1 : VE} (h : ex ce s e = .nx e1) : exs ce (s :: l) e = exs ce l e1 := by rw [exs_cons, h]; rfl
theorem exs_rt {ce : CE} {s : S} {l : List S} {e e1 : VE} {r : Ret} (h : ex ce s e = .rt r e1) : exs ce (s :: l) e = .rt r e1 := by rw [exs_cons, h]; rfl
/-- a loop, by what it walks and where it ends -/
theorem ex_for {ce : CE} {G : TG} {k : Ik} {ts : List T} {b : List S} {e e0 e9 : VE} {vs : List Val} {its : List D} (h1 : (evs ce ts e).bind (itsOf k) = .ok (vs, its) e0) (h2 : forF G (exs ce b) its (lockE (vws vs) e0) = .nx e9) : ex ce (.fors G k ts b) e = .nx (unlockE e0 (vws vs) e9) := by
  rw [ex, h1]
  simp only [R.out_ok]
  rw [h2]
  rfl
/-- .. where nothing is locked -/
theorem ex_for0 {ce : CE} {G : TG} {k : Ik} {ts : List T} {b : List S} {e e0 e9 : VE} {vs : List Val} {its : List D} (h1 : (evs ce ts e).bind (itsOf k) = .ok (vs, its) e0) (hv : vws vs = []) (h2 : forF G (exs ce b) its e0 = .nx e9) : ex ce (.fors G k ts b) e = .nx e9 := by
  have h := ex_for (b := b) (G := G) h1 (e9 := e9) (by rw [hv]; exact h2)
  rw [hv] at h
  exact h
theorem forF_nil {g : TG} {b : VE → Out} {e : VE} : forF g b [] e = .nx e := rfl
theorem forF_nx {g : TG} {b : VE → Out} {d : D} {l : List D} {e e1 e2 : VE} (h1 : bindG g d e = some e1) (h2 : b e1 = .nx e2) : forF g b (d :: l) e = forF g b l e2 := by
  rw [forF, h1]
  simp only [h2]
theorem ex_set {ce : CE} {i : Nat} {t : T} {e e1 e2 : VE} {v : Val} (h1 : ev ce t e = .ok v e1) (h2 : setV i v e1 = some e2) : ex ce (.set i t) e = .nx e2 := by
  rw [ex, h1]
  simp only [R.out_ok, h2, ofX_some]
theorem setV_p {i : Nat} {d : D} {e : VE} {s : SS} (h : e[i]? = some s) (hf : s.free = true) : setV i (.p d) e = some (e.set i (.dat d)) := by
  simp [setV, putS, h, hf]
theorem setV_fr {i : Nat} {c : OC} {e : VE} {s : SS} (h : e[i]? = some s) (hf : s.free = true) : setV i (.fr c) e = some (e.set i (.own false false c)) := by
  simp [setV, putS, h, hf]
end Vd
/-! the text of the law, told in Vd; printed by gen.py -/
namespace K72
open PySem PySem.Spec PyProof.Rows L2 Vd
def topS (i : Nat) : Stmt := PySem.Challenge.pw_bookpack_k72_whole_checks.main.body.getD i (.Pass ⟨0, 0, 0, 0⟩)
def con : Nat → D
  | 0 => .int 256
  | 1 => .int 7
  | 2 => .int 257
  | 3 => .int 4294967291
  | _ => .non
/-! _law_begin -/
abbrev s_law_begin : Stmt := topS 15
def b_law_begin : List S := [
    .ret (.dct [.inr [99, 101, 108, 108, 115], .inr [97, 116], .inr [108, 101, 102, 116], .inr [117, 115, 101, 100]] [(.bin .add (.var 0) (.lst [(.int 0)])), (.int 0), (.int 0), (.int 0)])]
def cf_law_begin : Cf := ⟨["_law_script"], defScope s_law_begin, cellsOf (defScope s_law_begin), [], [], []⟩
theorem sc_law_begin : FnScope cf_law_begin.N ["_law_script"] (defScope s_law_begin) := ⟨rfl, rfl, rfl, by decide +kernel, rfl, by decide +kernel, by decide +kernel⟩
theorem ck_law_begin : chkSs b_law_begin cf_law_begin (defBody s_law_begin) = true := by decide +kernel
def fn_law_begin : Nat → List Vd.Arg → RF
  | _ => fun _ => .no
def ce_law_begin : CE := ⟨con, fn_law_begin⟩
def F_law_begin : List Vd.Arg → RF := runF ce_law_begin 1 b_law_begin
/-! _law_mixed -/
abbrev s_law_mixed : Stmt := topS 16
def b_law_mixed : List S := [
    .set 2 (.bin .mod (.bi .int [(.bin .add (.bin .add (.bin .add (.bin .mod (.bi .int [(.var 0)]) (.int 1000000007)) (.bin .mul (.bin .mul (.int 7919) (.var 1)) (.var 1))) (.bin .mul (.int 31) (.var 1))) (.int 7))]) (.int 2147483647)),
    .set 2 (.bin .mod (.bi .int [(.bin .mul (.bin .mod (.bi .int [(.bin .mul (.var 2) (.var 2))]) (.int 2147483647)) (.var 2))]) (.int 2147483629)),
    .ret (.bin .fdiv (.bin .mod (.bi .int [(.bin .mul (.var 2) (.bin .add (.int 69621) (.bin .mul (.int 2) (.bin .mod (.bi .int [(.var 1)]) (.int 1000)))))]) (.int 2147483647)) (.int 7))]
def cf_law_mixed : Cf := ⟨["_law_cell", "_law_k", "_law_mixed_here"], defScope s_law_mixed, cellsOf (defScope s_law_mixed), [], [], ["int"]⟩
theorem sc_law_mixed : FnScope cf_law_mixed.N ["_law_cell", "_law_k"] (defScope s_law_mixed) := ⟨rfl, rfl, rfl, by decide +kernel, rfl, by decide +kernel, by decide +kernel⟩
theorem ck_law_mixed : chkSs b_law_mixed cf_law_mixed (defBody s_law_mixed) = true := by decide +kernel
def fn_law_mixed : Nat → List Vd.Arg → RF
  | _ => fun _ => .no
def ce_law_mixed : CE := ⟨con, fn_law_mixed⟩
def F_law_mixed : List Vd.Arg → RF := runF ce_law_mixed 3 b_law_mixed
/-! _law_next -/
abbrev s_law_next : Stmt := topS 17
def b_law_next : List S := [
    .ifs (.cmp .gt (.ix (.var 0) (.str [108, 101, 102, 116])) (.int 0))
    [.set 2 (.bin .mod (.bi .int [(.ix (.var 0) (.str [108, 101, 102, 116]))]) (.var 1)),
    .sub (.var 0) (.str [108, 101, 102, 116]) (.bin .fdiv (.ix (.var 0) (.str [108, 101, 102, 116])) (.var 1)),
    .ret (.var 2)]
    [],
    .set 3 (.ix (.var 0) (.str [99, 101, 108, 108, 115])),
    .set 4 (.ix (.var 3) (.bin .mod (.bi .int [(.ix (.var 0) (.str [97, 116]))]) (.bi .len [(.var 3)]))),
    .sub (.var 0) (.str [97, 116]) (.bin .add (.ix (.var 0) (.str [97, 116])) (.int 1)),
    .ifs (.and (.cmp .ge (.var 4) (.bin .pow (.int 10) (.int 18))) (.cmp .le (.ix (.var 0) (.str [97, 116])) (.bi .len [(.var 3)])))
    [.sub (.var 0) (.str [108, 101, 102, 116]) (.bin .fdiv (.var 4) (.var 1)),
    .ret (.bin .mod (.bi .int [(.var 4)]) (.var 1))]
    [],
    .sub (.var 0) (.str [117, 115, 101, 100]) (.bin .add (.ix (.var 0) (.str [117, 115, 101, 100])) (.int 1)),
    .ret (.bin .mod (.bi .int [(.call 6 [(.call 6 [(.var 4), (.ix (.var 0) (.str [97, 116]))]), (.ix (.var 0) (.str [117, 115, 101, 100]))])]) (.var 1))]
def cf_law_next : Cf := ⟨["_law_draw", "_law_bound", "_law_found", "_law_every", "_law_cell"], defScope s_law_next, cellsOf (defScope s_law_next), [("_law_mixed", 6, 2)], [], ["int", "len"]⟩
theorem sc_law_next : FnScope cf_law_next.N ["_law_draw", "_law_bound"] (defScope s_law_next) := ⟨rfl, rfl, rfl, by decide +kernel, rfl, by decide +kernel, by decide +kernel⟩
theorem ck_law_next : chkSs b_law_next cf_law_next (defBody s_law_next) = true := by decide +kernel
def fn_law_next : Nat → List Vd.Arg → RF
  | 6 => fun as => F_law_mixed as
  | _ => fun _ => .no
def ce_law_next : CE := ⟨con, fn_law_next⟩
def F_law_next : List Vd.Arg → RF := runF ce_law_next 5 b_law_next
/-! is_whole -/
abbrev s_is_whole : Stmt := topS 4
def b_is_whole : List S := [
    .ret (.and (.isi (.var 0) [.int]) (.and (.not (.isi (.var 0) [.bool])) (.chn .le .le (.var 1) (.var 0) (.var 2))))]
def cf_is_whole : Cf := ⟨["value", "least", "most"], defScope s_is_whole, cellsOf (defScope s_is_whole), [], [], ["isinstance", "bool", "int"]⟩
theorem sc_is_whole : FnScope cf_is_whole.N ["value", "least", "most"] (defScope s_is_whole) := ⟨rfl, rfl, rfl, by decide +kernel, rfl, by decide +kernel, by decide +kernel⟩
theorem ck_is_whole : chkSs b_is_whole cf_is_whole (defBody s_is_whole) = true := by decide +kernel
def fn_is_whole : Nat → List Vd.Arg → RF
  | _ => fun _ => .no
def ce_is_whole : CE := ⟨con, fn_is_whole⟩
def F_is_whole : List Vd.Arg → RF := runF ce_is_whole 3 b_is_whole
/-! is_octet -/
abbrev s_is_octet : Stmt := topS 10
def b_is_octet : List S := [
    .ret (.call 0 [(.var 0), (.int 0), (.bin .sub (.con 0) (.int 1))])]
def cf_is_octet : Cf := ⟨["value"], defScope s_is_octet, cellsOf (defScope s_is_octet), [("is_whole", 0, 3)], [("BASE", 0)], []⟩
theorem sc_is_octet : FnScope cf_is_octet.N ["value"] (defScope s_is_octet) := ⟨rfl, rfl, rfl, by decide +kernel, rfl, by decide +kernel, by decide +kernel⟩
theorem ck_is_octet : chkSs b_is_octet cf_is_octet (defBody s_is_octet) = true := by decide +kernel
def fn_is_octet : Nat → List Vd.Arg → RF
  | 0 => fun as => F_is_whole as
  | _ => fun _ => .no
def ce_is_octet : CE := ⟨con, fn_is_octet⟩
def F_is_octet : List Vd.Arg → RF := runF ce_is_octet 1 b_is_octet
/-! need_data -/
abbrev s_need_data : Stmt := topS 11
def b_need_data : List S := [
    .ifs (.not (.isi (.var 0) [.tuple]))
    [.bad]
    [],
    .fors (.tp [(.nm 1), (.nm 2)]) .enum [(.var 0)] [.ifs (.not (.call 1 [(.var 2)]))
    [.bad]
    []]]
def cf_need_data : Cf := ⟨["value", "index", "octet"], defScope s_need_data, cellsOf (defScope s_need_data), [("is_octet", 1, 1)], [], ["isinstance", "tuple", "enumerate"]⟩
theorem sc_need_data : FnScope cf_need_data.N ["value"] (defScope s_need_data) := ⟨rfl, rfl, rfl, by decide +kernel, rfl, by decide +kernel, by decide +kernel⟩
theorem ck_need_data : chkSs b_need_data cf_need_data (defBody s_need_data) = true := by decide +kernel
def fn_need_data : Nat → List Vd.Arg → RF
  | 1 => fun as => F_is_octet as
  | _ => fun _ => .no
def ce_need_data : CE := ⟨con, fn_need_data⟩
def F_need_data : List Vd.Arg → RF := runF ce_need_data 3 b_need_data
/-! check_by -/
abbrev s_check_by : Stmt := topS 12
def b_check_by : List S := [
    .set 1 (.con 1),
    .fors (.nm 2) .seq [(.var 0)] [.set 1 (.bin .mod (.bi .int [(.bin .add (.bin .add (.bin .mul (.var 1) (.con 2)) (.var 2)) (.int 1))]) (.con 3))],
    .ret (.var 1)]
def cf_check_by : Cf := ⟨["octets", "check", "octet"], defScope s_check_by, cellsOf (defScope s_check_by), [], [("CHECK_START", 1), ("CHECK_FACTOR", 2), ("CHECK_MODULUS", 3)], ["int"]⟩
theorem sc_check_by : FnScope cf_check_by.N ["octets"] (defScope s_check_by) := ⟨rfl, rfl, rfl, by decide +kernel, rfl, by decide +kernel, by decide +kernel⟩
theorem ck_check_by : chkSs b_check_by cf_check_by (defBody s_check_by) = true := by decide +kernel
def fn_check_by : Nat → List Vd.Arg → RF
  | _ => fun _ => .no
def ce_check_by : CE := ⟨con, fn_check_by⟩
def F_check_by : List Vd.Arg → RF := runF ce_check_by 3 b_check_by
/-! check_of -/
abbrev s_check_of : Stmt := topS 13
def b_check_of : List S := [
    .exp (.call 2 [(.var 0)]),
    .ret (.call 3 [(.var 0)])]
def cf_check_of : Cf := ⟨["data"], defScope s_check_of, cellsOf (defScope s_check_of), [("need_data", 2, 1), ("check_by", 3, 1)], [], []⟩
theorem sc_check_of : FnScope cf_check_of.N ["data"] (defScope s_check_of) := ⟨rfl, rfl, rfl, by decide +kernel, rfl, by decide +kernel, by decide +kernel⟩
theorem ck_check_of : chkSs b_check_of cf_check_of (defBody s_check_of) = true := by decide +kernel
def fn_check_of : Nat → List Vd.Arg → RF
  | 2 => fun as => F_need_data as
  | 3 => fun as => F_check_by as
  | _ => fun _ => .no
def ce_check_of : CE := ⟨con, fn_check_of⟩
def F_check_of : List Vd.Arg → RF := runF ce_check_of 1 b_check_of
/-! _law_weighted -/
abbrev s_law_weighted : Stmt := topS 18
def b_law_weighted : List S := [
    .set 2 (.int 0),
    .fors (.tp [(.nm 3), (.nm 4)]) .zip [(.var 0), (.var 1)] [.set 2 (.bin .mod (.bi .int [(.bin .sub (.bin .add (.bin .mul (.var 2) (.int 257)) (.var 3)) (.var 4))]) (.int 4294967291))],
    .ret (.var 2)]
def cf_law_weighted : Cf := ⟨["_law_one", "_law_other", "_law_found", "_law_first", "_law_second"], defScope s_law_weighted, cellsOf (defScope s_law_weighted), [], [], ["zip", "int"]⟩
theorem sc_law_weighted : FnScope cf_law_weighted.N ["_law_one", "_law_other"] (defScope s_law_weighted) := ⟨rfl, rfl, rfl, by decide +kernel, rfl, by decide +kernel, by decide +kernel⟩
theorem ck_law_weighted : chkSs b_law_weighted cf_law_weighted (defBody s_law_weighted) = true := by decide +kernel
def fn_law_weighted : Nat → List Vd.Arg → RF
  | _ => fun _ => .no
def ce_law_weighted : CE := ⟨con, fn_law_weighted⟩
def F_law_weighted : List Vd.Arg → RF := runF ce_law_weighted 5 b_law_weighted
/-! _law_power -/
abbrev s_law_power : Stmt := topS 19
def b_law_power : List S := [
    .set 1 (.int 1),
    .fors (.nm 2) .rng [(.var 0)] [.set 1 (.bin .mod (.bi .int [(.bin .mul (.var 1) (.int 257))]) (.int 4294967291))],
    .ret (.var 1)]
def cf_law_power : Cf := ⟨["_law_times", "_law_found", "_law_turn"], defScope s_law_power, cellsOf (defScope s_law_power), [], [], ["range", "int"]⟩
theorem sc_law_power : FnScope cf_law_power.N ["_law_times"] (defScope s_law_power) := ⟨rfl, rfl, rfl, by decide +kernel, rfl, by decide +kernel, by decide +kernel⟩
theorem ck_law_power : chkSs b_law_power cf_law_power (defBody s_law_power) = true := by decide +kernel
def fn_law_power : Nat → List Vd.Arg → RF
  | _ => fun _ => .no
def ce_law_power : CE := ⟨con, fn_law_power⟩
def F_law_power : List Vd.Arg → RF := runF ce_law_power 3 b_law_power
/-! law -/
abbrev s_law : Stmt := topS 20
def b_law : List S := [
    .set 1 (.call 5 [(.var 0)]),
    .fors (.nm 2) .rng [(.int 8)] [.set 3 (.lc (.call 7 [(.var 1), (.int 256)]) (.nm 12) .rng [(.bin .add (.int 1) (.call 7 [(.var 1), (.int 80)]))] none [12]),
    .set 4 (.bi .list [(.var 3)]),
    .set 5 (.lc (.call 7 [(.var 1), (.bi .len [(.var 3)])]) (.nm 12) .rng [(.call 7 [(.var 1), (.int 4)])] none [12]),
    .fors (.nm 6) .seq [(.var 5)] [.sub (.var 4) (.var 6) (.ix (.lst [(.call 7 [(.var 1), (.int 256)]), (.int 0), (.int 255), (.bin .mod (.bi .int [(.bin .add (.ix (.var 4) (.var 6)) (.int 1))]) (.int 256))]) (.call 7 [(.var 1), (.int 4)]))],
    .set 7 (.lc (.call 7 [(.var 1), (.int 256)]) (.nm 12) .rng [(.call 7 [(.var 1), (.int 20)])] none [12]),
    .par [8, 9] [(.call 4 [(.bi .tuple [(.var 3)])]), (.call 4 [(.bi .tuple [(.var 4)])])],
    .ifs (.cmp .ne (.cmp .eq (.var 8) (.var 9)) (.cmp .eq (.call 8 [(.var 3), (.var 4)]) (.int 0)))
    [.ret (.bl false)]
    [],
    .ifs (.and (.cmp .ne (.var 3) (.var 4)) (.and (.cmp .lt (.bi .setlen [(.var 5)]) (.int 2)) (.cmp .eq (.var 8) (.var 9))))
    [.ret (.bl false)]
    [],
    .par [10, 11] [(.call 4 [(.bi .tuple [(.bin .add (.var 3) (.var 7))])]), (.call 4 [(.bi .tuple [(.var 7)])])],
    .ifs (.cmp .ne (.bin .mod (.bi .int [(.bin .sub (.var 10) (.var 11))]) (.int 4294967291)) (.bin .mod (.bi .int [(.bin .mul (.bin .sub (.var 8) (.int 7)) (.call 9 [(.bi .len [(.var 7)])]))]) (.int 4294967291)))
    [.ret (.bl false)]
    [],
    .ifs (.or (.cmp .ne (.cmp .eq (.var 10) (.call 4 [(.bi .tuple [(.bin .add (.var 4) (.var 7))])])) (.cmp .eq (.var 8) (.var 9))) (.not (.chn .le .lt (.int 0) (.var 8) (.int 4294967291))))
    [.ret (.bl false)]
    []],
    .ret (.bl true)]
def cf_law : Cf := ⟨["_law_script", "_law_draw", "_law_turn", "_law_one", "_law_other", "_law_places", "_law_at", "_law_more", "_law_first", "_law_second", "_law_both", "_law_rest", "_law_place"], defScope s_law, cellsOf (defScope s_law), [("_law_begin", 5, 1), ("_law_next", 7, 2), ("check_of", 4, 1), ("_law_weighted", 8, 2), ("_law_power", 9, 1)], [], ["range", "list", "len", "int", "tuple", "set"]⟩
theorem sc_law : FnScope cf_law.N ["_law_script"] (defScope s_law) := ⟨rfl, rfl, rfl, by decide +kernel, rfl, by decide +kernel, by decide +kernel⟩
theorem ck_law : chkSs b_law cf_law (defBody s_law) = true := by decide +kernel
def fn_law : Nat → List Vd.Arg → RF
  | 5 => fun as => F_law_begin as
  | 7 => fun as => F_law_next as
  | 4 => fun as => F_check_of as
  | 8 => fun as => F_law_weighted as
  | 9 => fun as => F_law_power as
  | _ => fun _ => .no
def ce_law : CE := ⟨con, fn_law⟩
def F_law : List Vd.Arg → RF := runF ce_law 13 b_law
section
theorem all_mk {l : PySem.W.OpenLaw} {w : World} {K : PySem.W.Frag} {h : Heap} {mg : Str → Option Value} {fa f1 f2 f3 f4 f5 f6 f7 f8 f9 f10 f11 : Addr} (X : K.In h) (G : h.Ns mainGlobals mg) (hfa : mg "law" = some (.ref fa))
    {od1 od2 od3 od4 od5 od6 od7 od8 od9 od10 od11 an1 an2 an3 an4 an5 an6 an7 an8 an9 an10 an11 : Option Addr} {sl1 sl2 sl3 sl4 sl5 sl6 sl7 sl8 sl9 sl10 sl11 : Array (Option Value)} {oc1 oc2 oc3 oc4 oc5 oc6 oc7 oc8 oc9 oc10 oc11 kV1 kV2 kV3 kV4 kV5 kV6 kV7 kV8 kV9 kV10 kV11 dc1 dc2 dc3 dc4 dc5 dc6 dc7 dc8 dc9 dc10 dc11 pm1 pm2 pm3 pm4 pm5 pm6 pm7 pm8 pm9 pm10 pm11 cd1 cd2 cd3 cd4 cd5 cd6 cd7 cd8 cd9 cd10 cd11 ct1 ct2 ct3 ct4 ct5 ct6 ct7 ct8 ct9 ct10 ct11 : Value} {t1 t2 t3 t4 : Tok}
    (a1 : PySem.W.nsIn K mainGlobals "_law_begin" = some (some (.ref f1))) (l1 : K.lookup f1 = some ⟨oc1, od1, .func (PySem.W.fnOf "_law_begin" "_law_begin" (defArgs s_law_begin) (defBody s_law_begin) (defScope s_law_begin) .none kV1 dc1 pm1 an1 cd1 ct1), sl1⟩) (c1 : PySem.W.codeIn K cd1 "_law_begin" = true) (k1 : PySem.W.keepIn K (.ref f1) = true)
    (a2 : PySem.W.nsIn K mainGlobals "_law_mixed" = some (some (.ref f2))) (l2 : K.lookup f2 = some ⟨oc2, od2, .func (PySem.W.fnOf "_law_mixed" "_law_mixed" (defArgs s_law_mixed) (defBody s_law_mixed) (defScope s_law_mixed) .none kV2 dc2 pm2 an2 cd2 ct2), sl2⟩) (c2 : PySem.W.codeIn K cd2 "_law_mixed" = true) (k2 : PySem.W.keepIn K (.ref f2) = true)
    (a3 : PySem.W.nsIn K mainGlobals "_law_next" = some (some (.ref f3))) (l3 : K.lookup f3 = some ⟨oc3, od3, .func (PySem.W.fnOf "_law_next" "_law_next" (defArgs s_law_next) (defBody s_law_next) (defScope s_law_next) .none kV3 dc3 pm3 an3 cd3 ct3), sl3⟩) (c3 : PySem.W.codeIn K cd3 "_law_next" = true) (k3 : PySem.W.keepIn K (.ref f3) = true)
    (a4 : PySem.W.nsIn K mainGlobals "is_whole" = some (some (.ref f4))) (l4 : K.lookup f4 = some ⟨oc4, od4, .func (PySem.W.fnOf "is_whole" "is_whole" (defArgs s_is_whole) (defBody s_is_whole) (defScope s_is_whole) .none kV4 dc4 pm4 an4 cd4 ct4), sl4⟩) (c4 : PySem.W.codeIn K cd4 "is_whole" = true) (k4 : PySem.W.keepIn K (.ref f4) = true)
    (a5 : PySem.W.nsIn K mainGlobals "is_octet" = some (some (.ref f5))) (l5 : K.lookup f5 = some ⟨oc5, od5, .func (PySem.W.fnOf "is_octet" "is_octet" (defArgs s_is_octet) (defBody s_is_octet) (defScope s_is_octet) .none kV5 dc5 pm5 an5 cd5 ct5), sl5⟩) (c5 : PySem.W.codeIn K cd5 "is_octet" = true) (k5 : PySem.W.keepIn K (.ref f5) = true)
    (a6 : PySem.W.nsIn K mainGlobals "need_data" = some (some (.ref f6))) (l6 : K.lookup f6 = some ⟨oc6, od6, .func (PySem.W.fnOf "need_data" "need_data" (defArgs s_need_data) (defBody s_need_data) (defScope s_need_data) .none kV6 dc6 pm6 an6 cd6 ct6), sl6⟩) (c6 : PySem.W.codeIn K cd6 "need_data" = true) (k6 : PySem.W.keepIn K (.ref f6) = true)
    (a7 : PySem.W.nsIn K mainGlobals "check_by" = some (some (.ref f7))) (l7 : K.lookup f7 = some ⟨oc7, od7, .func (PySem.W.fnOf "check_by" "check_by" (defArgs s_check_by) (defBody s_check_by) (defScope s_check_by) .none kV7 dc7 pm7 an7 cd7 ct7), sl7⟩) (c7 : PySem.W.codeIn K cd7 "check_by" = true) (k7 : PySem.W.keepIn K (.ref f7) = true)
    (a8 : PySem.W.nsIn K mainGlobals "check_of" = some (some (.ref f8))) (l8 : K.lookup f8 = some ⟨oc8, od8, .func (PySem.W.fnOf "check_of" "check_of" (defArgs s_check_of) (defBody s_check_of) (defScope s_check_of) .none kV8 dc8 pm8 an8 cd8 ct8), sl8⟩) (c8 : PySem.W.codeIn K cd8 "check_of" = true) (k8 : PySem.W.keepIn K (.ref f8) = true)
    (a9 : PySem.W.nsIn K mainGlobals "_law_weighted" = some (some (.ref f9))) (l9 : K.lookup f9 = some ⟨oc9, od9, .func (PySem.W.fnOf "_law_weighted" "_law_weighted" (defArgs s_law_weighted) (defBody s_law_weighted) (defScope s_law_weighted) .none kV9 dc9 pm9 an9 cd9 ct9), sl9⟩) (c9 : PySem.W.codeIn K cd9 "_law_weighted" = true) (k9 : PySem.W.keepIn K (.ref f9) = true)
    (a10 : PySem.W.nsIn K mainGlobals "_law_power" = some (some (.ref f10))) (l10 : K.lookup f10 = some ⟨oc10, od10, .func (PySem.W.fnOf "_law_power" "_law_power" (defArgs s_law_power) (defBody s_law_power) (defScope s_law_power) .none kV10 dc10 pm10 an10 cd10 ct10), sl10⟩) (c10 : PySem.W.codeIn K cd10 "_law_power" = true) (k10 : PySem.W.keepIn K (.ref f10) = true)
    (a11 : PySem.W.nsIn K mainGlobals "law" = some (some (.ref f11))) (l11 : K.lookup f11 = some ⟨oc11, od11, .func (PySem.W.fnOf "law" "law" (defArgs s_law) (defBody s_law) (defScope s_law) .none kV11 dc11 pm11 an11 cd11 ct11), sl11⟩) (c11 : PySem.W.codeIn K cd11 "law" = true) (k11 : PySem.W.keepIn K (.ref f11) = true)
    (z1 : PySem.W.nsIn K mainGlobals "int" = some none)
    (z2 : PySem.W.nsIn K mainGlobals "len" = some none)
    (z3 : PySem.W.nsIn K mainGlobals "isinstance" = some none)
    (z4 : PySem.W.nsIn K mainGlobals "bool" = some none)
    (z5 : PySem.W.nsIn K mainGlobals "tuple" = some none)
    (z6 : PySem.W.nsIn K mainGlobals "enumerate" = some none)
    (z7 : PySem.W.nsIn K mainGlobals "zip" = some none)
    (z8 : PySem.W.nsIn K mainGlobals "range" = some none)
    (z9 : PySem.W.nsIn K mainGlobals "list" = some none)
    (z10 : PySem.W.nsIn K mainGlobals "set" = some none)
    (v1 : PySem.W.nsIn K mainGlobals "BASE" = some (some (.int 256 t1)))
    (v2 : PySem.W.nsIn K mainGlobals "CHECK_START" = some (some (.int 7 t2)))
    (v3 : PySem.W.nsIn K mainGlobals "CHECK_FACTOR" = some (some (.int 257 t3)))
    (v4 : PySem.W.nsIn K mainGlobals "CHECK_MODULUS" = some (some (.int 4294967291 t4)))
    : ∃ fd : FuncData, (∀ (s : Shared) (v : Value), BindsTo s fd ⟨[v], []⟩ [("_law_script", v)]) ∧ ∀ base : Heap, K.In base → base.Ns mainGlobals mg → FnOk l.prog w K mg base (L2.CX l.prog w) 5 fa fd ["_law_script"] (spD (g0 K) 1 F_law) := by
  have e := hfa.symm.trans (PySem.W.mg_of X G a11)
  cases e
  have E1 := fun_mk (st := s_law_begin) l1 c1 k1
  have b1 := E1.binds (ps := ["_law_script"]) fun _ _ _ _ _ _ us hl => match us, hl with | [_], _ => rfl
  have E2 := fun_mk (st := s_law_mixed) l2 c2 k2
  have b2 := E2.binds (ps := ["_law_cell", "_law_k"]) fun _ _ _ _ _ _ us hl => match us, hl with | [_, _], _ => rfl
  have E3 := fun_mk (st := s_law_next) l3 c3 k3
  have b3 := E3.binds (ps := ["_law_draw", "_law_bound"]) fun _ _ _ _ _ _ us hl => match us, hl with | [_, _], _ => rfl
  have E4 := fun_mk (st := s_is_whole) l4 c4 k4
  have b4 := E4.binds (ps := ["value", "least", "most"]) fun _ _ _ _ _ _ us hl => match us, hl with | [_, _, _], _ => rfl
  have E5 := fun_mk (st := s_is_octet) l5 c5 k5
  have b5 := E5.binds (ps := ["value"]) fun _ _ _ _ _ _ us hl => match us, hl with | [_], _ => rfl
  have E6 := fun_mk (st := s_need_data) l6 c6 k6
  have b6 := E6.binds (ps := ["value"]) fun _ _ _ _ _ _ us hl => match us, hl with | [_], _ => rfl
  have E7 := fun_mk (st := s_check_by) l7 c7 k7
  have b7 := E7.binds (ps := ["octets"]) fun _ _ _ _ _ _ us hl => match us, hl with | [_], _ => rfl
  have E8 := fun_mk (st := s_check_of) l8 c8 k8
  have b8 := E8.binds (ps := ["data"]) fun _ _ _ _ _ _ us hl => match us, hl with | [_], _ => rfl
  have E9 := fun_mk (st := s_law_weighted) l9 c9 k9
  have b9 := E9.binds (ps := ["_law_one", "_law_other"]) fun _ _ _ _ _ _ us hl => match us, hl with | [_, _], _ => rfl
  have E10 := fun_mk (st := s_law_power) l10 c10 k10
  have b10 := E10.binds (ps := ["_law_times"]) fun _ _ _ _ _ _ us hl => match us, hl with | [_], _ => rfl
  have E11 := fun_mk (st := s_law) l11 c11 k11
  refine ⟨PySem.W.fnOf "law" "law" (defArgs s_law) (defBody s_law) (defScope s_law) .none kV11 dc11 pm11 an11 cd11 ct11, fun s v => .of_eq rfl, fun base _ _ => ?_⟩
  have D1 : FD l.prog w mg base (g0 K) "_law_begin" F_law_begin 1 1 := fd_ok (g := g0 K) (ce := ce_law_begin) (cf := cf_law_begin) E1 (PySem.W.mg_of X G a1) b1 sc_law_begin (by decide) rfl ck_law_begin trivial trivial trivial
  have D2 : FD l.prog w mg base (g0 K) "_law_mixed" F_law_mixed 2 1 := fd_ok (g := g0 K) (ce := ce_law_mixed) (cf := cf_law_mixed) E2 (PySem.W.mg_of X G a2) b2 sc_law_mixed (by decide) rfl ck_law_mixed trivial trivial ⟨PySem.W.mg_none_of X G z1, trivial⟩
  have D3 : FD l.prog w mg base (g0 K) "_law_next" F_law_next 2 2 := fd_ok (g := g0 K) (ce := ce_law_next) (cf := cf_law_next) E3 (PySem.W.mg_of X G a3) b3 sc_law_next (by decide) rfl ck_law_next ⟨⟨1, by decide, D2⟩, trivial⟩ trivial ⟨PySem.W.mg_none_of X G z1, PySem.W.mg_none_of X G z2, trivial⟩
  have D4 : FD l.prog w mg base (g0 K) "is_whole" F_is_whole 3 1 := fd_ok (g := g0 K) (ce := ce_is_whole) (cf := cf_is_whole) E4 (PySem.W.mg_of X G a4) b4 sc_is_whole (by decide) rfl ck_is_whole trivial trivial ⟨PySem.W.mg_none_of X G z3, PySem.W.mg_none_of X G z4, PySem.W.mg_none_of X G z1, trivial⟩
  have D5 : FD l.prog w mg base (g0 K) "is_octet" F_is_octet 1 2 := fd_ok (g := g0 K) (ce := ce_is_octet) (cf := cf_is_octet) E5 (PySem.W.mg_of X G a5) b5 sc_is_octet (by decide) rfl ck_is_octet ⟨⟨1, by decide, D4⟩, trivial⟩ ⟨con_int (PySem.W.mg_of X G v1) rfl, trivial⟩ trivial
  have D6 : FD l.prog w mg base (g0 K) "need_data" F_need_data 1 3 := fd_ok (g := g0 K) (ce := ce_need_data) (cf := cf_need_data) E6 (PySem.W.mg_of X G a6) b6 sc_need_data (by decide) rfl ck_need_data ⟨⟨2, by decide, D5⟩, trivial⟩ trivial ⟨PySem.W.mg_none_of X G z3, PySem.W.mg_none_of X G z5, PySem.W.mg_none_of X G z6, trivial⟩
  have D7 : FD l.prog w mg base (g0 K) "check_by" F_check_by 1 1 := fd_ok (g := g0 K) (ce := ce_check_by) (cf := cf_check_by) E7 (PySem.W.mg_of X G a7) b7 sc_check_by (by decide) rfl ck_check_by trivial ⟨con_int (PySem.W.mg_of X G v2) rfl, con_int (PySem.W.mg_of X G v3) rfl, con_int (PySem.W.mg_of X G v4) rfl, trivial⟩ ⟨PySem.W.mg_none_of X G z1, trivial⟩
  have D8 : FD l.prog w mg base (g0 K) "check_of" F_check_of 1 4 := fd_ok (g := g0 K) (ce := ce_check_of) (cf := cf_check_of) E8 (PySem.W.mg_of X G a8) b8 sc_check_of (by decide) rfl ck_check_of ⟨⟨3, by decide, D6⟩, ⟨1, by decide, D7⟩, trivial⟩ trivial trivial
  have D9 : FD l.prog w mg base (g0 K) "_law_weighted" F_law_weighted 2 1 := fd_ok (g := g0 K) (ce := ce_law_weighted) (cf := cf_law_weighted) E9 (PySem.W.mg_of X G a9) b9 sc_law_weighted (by decide) rfl ck_law_weighted trivial trivial ⟨PySem.W.mg_none_of X G z7, PySem.W.mg_none_of X G z1, trivial⟩
  have D10 : FD l.prog w mg base (g0 K) "_law_power" F_law_power 1 1 := fd_ok (g := g0 K) (ce := ce_law_power) (cf := cf_law_power) E10 (PySem.W.mg_of X G a10) b10 sc_law_power (by decide) rfl ck_law_power trivial trivial ⟨PySem.W.mg_none_of X G z8, PySem.W.mg_none_of X G z1, trivial⟩
  exact def_ok (g := g0 K) (ce := ce_law) (cf := cf_law) E11 sc_law (by decide) rfl ck_law ⟨⟨1, by decide, D1⟩, ⟨2, by decide, D3⟩, ⟨4, by decide, D8⟩, ⟨1, by decide, D9⟩, ⟨1, by decide, D10⟩, trivial⟩ trivial ⟨PySem.W.mg_none_of X G z8, PySem.W.mg_none_of X G z9, PySem.W.mg_none_of X G z2, PySem.W.mg_none_of X G z1, PySem.W.mg_none_of X G z5, PySem.W.mg_none_of X G z10, trivial⟩
end
end K72
namespace K72
open Vd
/-- octets -/
def Oct (xs : List Int) : Prop := ∀ x ∈ xs, 0 ≤ x ∧ x < 256
def hsh (c : Int) (xs : List Int) : Int := xs.foldl (fun c o => (c * 257 + o + 1) % 4294967291) c
theorem is_octet_ok {x : Int} (h0 : 0 ≤ x) (h1 : x < 256) : F_is_octet [.p (.int x)] = .ok (.p (.bl true)) [.p (.int x)] := by
  have h2 : x ≤ 255 := by omega
  simp [F_is_octet, ce_is_octet, fn_is_octet, b_is_octet, F_is_whole, ce_is_whole, fn_is_whole, b_is_whole, runF_def, exs, ex, ev, evs, evT, Arg.ss, op1, op2, rd, rds, bop, bfn, con, callR, vws, argsOf, argOf, putA, Ret.val, retV, runO, backA, isTys, isTy, blV, boolOf, cop, h0, h2]
theorem need_turns : ∀ (xs : List Int) (n : Nat) (t s1 s2 : SS), Oct xs → s1.free = true → s2.free = true → ∃ s1' s2', forF (.tp [.nm 1, .nm 2]) (exs ce_need_data [.ifs (.not (.call 1 [(.var 2)])) [.bad] []]) (enumF n (xs.map .int)) [t, s1, s2] = .nx [t, s1', s2'] ∧ s1'.free = true ∧ s2'.free = true
  | [], n, t, s1, s2, _, h1, h2 => ⟨s1, s2, rfl, h1, h2⟩
  | x :: xs, n, t, s1, s2, h, h1, h2 => by
    obtain ⟨h3, h4⟩ := h x (by simp)
    have e1 := is_octet_ok h3 h4
    obtain ⟨a, b, q, z1, z2⟩ := need_turns xs (n + 1) t (.dat (.int n)) (.dat (.int x)) (fun y hy => h y (by simp [hy])) rfl rfl
    refine ⟨a, b, ?_, z1, z2⟩
    rw [← q]
    simp [enumF, forF, bindG, bindGs, putS, h1, h2, exs, ex, ev, evs, evT, callR, vws, argsOf, argOf, ce_need_data, fn_need_data, e1, putA, Ret.val, op1, rd, tru]
theorem need_ok {xs : List Int} (h : Oct xs) : F_need_data [.p (.tup (xs.map .int))] = .ok (.p .non) [.p (.tup (xs.map .int))] := by
  obtain ⟨a, b, q, z1, z2⟩ := need_turns xs 0 (.dat (.tup (xs.map .int))) .un .un h rfl rfl
  show runO [.p (.tup (xs.map .int))] (exs ce_need_data b_need_data [.dat (.tup (xs.map .int)), .un, .un]) = _
  have e1 : ex ce_need_data (.ifs (.not (.isi (.var 0) [.tuple])) [.bad] []) [.dat (.tup (xs.map .int)), .un, .un] = .nx [.dat (.tup (xs.map .int)), .un, .un] := by
    simp [exs, ex, ev, evT, isTys, isTy, op1, rd, blV, tru]
  unfold b_need_data
  rw [exs_nx e1, exs_nx (ex_for0 (vs := [.p (.tup (xs.map .int))]) (its := enumF 0 (xs.map .int)) (by simp [ev, evs, itsOf, itOf, rds, rd]) rfl q)]
  simp [exs, runO, backA]
theorem by_turns : ∀ (xs : List Int) (t s2 : SS) (c : Int), Oct xs → -big < c ∧ c < big → s2.free = true → ∃ s2', forF (.nm 2) (exs ce_check_by [.set 1 (.bin .mod (.bi .int [(.bin .add (.bin .add (.bin .mul (.var 1) (.con 2)) (.var 2)) (.int 1))]) (.con 3))]) (xs.map .int) [t, .dat (.int c), s2] = .nx [t, .dat (.int (hsh c xs)), s2'] ∧ s2'.free = true
  | [], t, s2, c, _, _, h2 => ⟨s2, rfl, h2⟩
  | x :: xs, t, s2, c, h, hc, h2 => by
    obtain ⟨b, q, z⟩ := by_turns xs t (.dat (.int x)) ((c * 257 + x + 1) % 4294967291) (fun y hy => h y (by simp [hy])) (by unfold big; omega) rfl
    refine ⟨b, ?_, z⟩
    show _ = Out.nx [t, .dat (.int (hsh ((c * 257 + x + 1) % 4294967291) xs)), b]
    rw [← q]
    simp [forF, bindG, putS, h2, exs, ex, ev, evs, ce_check_by, con, op2, rd, rds, bfn, bop, setV, ofX, hc]
theorem by_ok {xs : List Int} (h : Oct xs) : F_check_by [.p (.tup (xs.map .int))] = .ok (.p (.int (hsh 7 xs))) [.p (.tup (xs.map .int))] := by
  obtain ⟨b, q, z⟩ := by_turns xs (.dat (.tup (xs.map .int))) .un 7 h (by decide) rfl
  show runO [.p (.tup (xs.map .int))] (exs ce_check_by b_check_by [.dat (.tup (xs.map .int)), .un, .un]) = _
  unfold b_check_by
  have e1 : ex ce_check_by (.set 1 (.con 1)) [.dat (.tup (xs.map .int)), .un, .un] = .nx [.dat (.tup (xs.map .int)), .dat (.int 7), .un] := by
    simp [ex, ev, setV, putS, ce_check_by, con]
  rw [exs_nx e1, exs_nx (ex_for0 (vs := [.p (.tup (xs.map .int))]) (its := xs.map .int) (by simp [ev, evs, itsOf, itOf, rds, rd, seqOf]) rfl q)]
  simp [exs, ex, ev, retV, runO, backA]
theorem check_ok {xs : List Int} (h : Oct xs) : F_check_of [.p (.tup (xs.map .int))] = .ok (.p (.int (hsh 7 xs))) [.p (.tup (xs.map .int))] := by
  have e1 := need_ok h
  have e2 := by_ok h
  simp [F_check_of, runF_def, b_check_of, exs, ex, ev, evs, Arg.ss, callR, vws, argsOf, argOf, ce_check_of, fn_check_of, e1, e2, putA, Ret.val, retV, runO, backA]
def wei (c : Int) : List Int → List Int → Int
  | x :: xs, y :: ys => wei ((c * 257 + x - y) % 4294967291) xs ys
  | _, _ => c
theorem wei_turns : ∀ (xs ys : List Int) (t u s3 s4 : SS) (c : Int), -big < c ∧ c < big → s3.free = true → s4.free = true → ∃ s3' s4', forF (.tp [(.nm 3), (.nm 4)]) (exs ce_law_weighted [.set 2 (.bin .mod (.bi .int [(.bin .sub (.bin .add (.bin .mul (.var 2) (.int 257)) (.var 3)) (.var 4))]) (.int 4294967291))]) (zipF (xs.map .int) (ys.map .int)) [t, u, .dat (.int c), s3, s4] = .nx [t, u, .dat (.int (wei c xs ys)), s3', s4']
  | [], ys, t, u, s3, s4, c, _, _, _ => ⟨s3, s4, by cases ys <;> rfl⟩
  | x :: xs, [], t, u, s3, s4, c, _, _, _ => ⟨s3, s4, rfl⟩
  | x :: xs, y :: ys, t, u, s3, s4, c, hc, h3, h4 => by
    obtain ⟨a, b, q⟩ := wei_turns xs ys t u (.dat (.int x)) (.dat (.int y)) ((c * 257 + x - y) % 4294967291) (by unfold big; omega) rfl rfl
    refine ⟨a, b, ?_⟩
    show _ = Out.nx [t, u, .dat (.int (wei ((c * 257 + x - y) % 4294967291) xs ys)), a, b]
    rw [← q]
    simp [zipF, forF, bindG, bindGs, putS, h3, h4, exs, ex, ev, evs, op2, rd, rds, bfn, bop, setV, ofX, hc]
theorem wei_ok (xs ys : List Int) : F_law_weighted [.o false (.ol (xs.map .int)), .o false (.ol (ys.map .int))] = .ok (.p (.int (wei 0 xs ys))) [.o false (.ol (xs.map .int)), .o false (.ol (ys.map .int))] := by
  obtain ⟨a, b, q⟩ := wei_turns xs ys (.own true true (.ol (xs.map .int))) (.own true true (.ol (ys.map .int))) .un .un 0 (by decide) rfl rfl
  show runO [.o false (.ol (xs.map .int)), .o false (.ol (ys.map .int))] (exs ce_law_weighted b_law_weighted [.own true false (.ol (xs.map .int)), .own true false (.ol (ys.map .int)), .un, .un, .un]) = _
  unfold b_law_weighted
  have e1 : ex ce_law_weighted (.set 2 (.int 0)) [.own true false (.ol (xs.map .int)), .own true false (.ol (ys.map .int)), .un, .un, .un] = .nx [.own true false (.ol (xs.map .int)), .own true false (.ol (ys.map .int)), .dat (.int 0), .un, .un] := by
    simp [ex, ev, setV, putS]
  rw [exs_nx e1, exs_nx (ex_for (vs := [.vw 0, .vw 1]) (its := zipF (xs.map .int) (ys.map .int)) (e0 := [.own true false (.ol (xs.map .int)), .own true false (.ol (ys.map .int)), .dat (.int 0), .un, .un]) (by simp [ev, evs, itsOf, itOf, rds, rd, SS.rd, OC.toD]) q)]
  simp [exs, ex, ev, retV, runO, backA, unlockE, vws, SS.lock, SS.lk]
def pw : Nat → Int → Int
  | 0, c => c
  | n + 1, c => pw n (c * 257 % 4294967291)
theorem pow_turns : ∀ (l : List D) (t s2 : SS) (c : Int), -big < c ∧ c < big → s2.free = true → ∃ s2', forF (.nm 2) (exs ce_law_power [.set 1 (.bin .mod (.bi .int [(.bin .mul (.var 1) (.int 257))]) (.int 4294967291))]) l [t, .dat (.int c), s2] = .nx [t, .dat (.int (pw l.length c)), s2']
  | [], t, s2, c, _, _ => ⟨s2, rfl⟩
  | d :: l, t, s2, c, hc, h2 => by
    obtain ⟨b, q⟩ := pow_turns l t (.dat d) (c * 257 % 4294967291) (by unfold big; omega) rfl
    refine ⟨b, ?_⟩
    show _ = Out.nx [t, .dat (.int (pw l.length (c * 257 % 4294967291))), b]
    rw [← q]
    simp [forF, bindG, putS, h2, exs, ex, ev, evs, op2, rd, rds, bfn, bop, setV, ofX, hc]
theorem pow_ok {n : Nat} (hn : n ≤ 1000) : F_law_power [.p (.int n)] = .ok (.p (.int (pw n 1))) [.p (.int n)] := by
  obtain ⟨b, q⟩ := pow_turns ((List.range n).map fun k => .int (k : Nat)) (.dat (.int n)) .un 1 (by decide) rfl
  have hl : ((List.range n).map fun k => (D.int (k : Nat))).length = n := by simp
  rw [hl] at q
  show runO [.p (.int n)] (exs ce_law_power b_law_power [.dat (.int n), .un, .un]) = _
  unfold b_law_power
  have e1 : ex ce_law_power (.set 1 (.int 1)) [.dat (.int n), .un, .un] = .nx [.dat (.int n), .dat (.int 1), .un] := by
    simp [ex, ev, setV, putS]
  have hi : itOf .rng [.int (n : Int)] = some ((List.range n).map fun k => .int (k : Nat)) := by
    show rngOf [.int (n : Int)] = _
    unfold rngOf
    have : -(2 ^ 61) ≤ (n : Int) ∧ (n : Int) ≤ (line : Int) := by unfold line; omega
    simp only [this, and_self, if_true, Int.toNat_natCast]
  rw [exs_nx e1, exs_nx (ex_for0 (vs := [.p (.int n)]) (its := (List.range n).map fun k => .int (k : Nat)) (by simp [ev, evs, itsOf, hi, rds, rd]) rfl q)]
  simp [exs, ex, ev, retV, runO, backA]
end K72
namespace K72
/-! the mathematics -/
abbrev p0 : Int := 4294967291
def P (c : Int) (xs : List Int) : Int := xs.foldl (fun c o => c * 257 + o + 1) c
theorem P_cong : ∀ (xs : List Int) (c d : Int), c % p0 = d % p0 → P c xs % p0 = P d xs % p0
  | [], c, d, h => h
  | x :: xs, c, d, h => P_cong xs (c * 257 + x + 1) (d * 257 + x + 1) (by unfold p0 at *; omega)
theorem hsh_P : ∀ (xs : List Int) (c : Int), 0 ≤ c → c < p0 → hsh c xs = P c xs % p0
  | [], c, h0, h1 => (Int.emod_eq_of_lt h0 h1).symm
  | x :: xs, c, h0, h1 => by
    show hsh ((c * 257 + x + 1) % 4294967291) xs = P (c * 257 + x + 1) xs % p0
    rw [hsh_P xs _ (Int.emod_nonneg _ (by decide)) (Int.emod_lt_of_pos _ (by decide))]
    exact P_cong xs _ _ (by unfold p0; omega)
theorem P_app (c : Int) (xs ys : List Int) : P c (xs ++ ys) = P (P c xs) ys := List.foldl_append
theorem P_lin : ∀ (xs : List Int) (c d : Int), P c xs - P d xs = (c - d) * 257 ^ xs.length
  | [], c, d => by simp [P]
  | x :: xs, c, d => by
    have h := P_lin xs (c * 257 + x + 1) (d * 257 + x + 1)
    show P (c * 257 + x + 1) xs - P (d * 257 + x + 1) xs = _
    rw [h, List.length_cons, Int.pow_succ, show c * 257 + x + 1 - (d * 257 + x + 1) = (c - d) * 257 by omega, Int.mul_assoc, Int.mul_comm 257]
theorem wei_P : ∀ (xs ys : List Int) (a b c : Int), xs.length = ys.length → c % p0 = (a - b) % p0 → wei c xs ys % p0 = (P a xs - P b ys) % p0
  | [], [], a, b, c, _, h => h
  | [], _ :: _, _, _, _, h, _ => by cases h
  | _ :: _, [], _, _, _, h, _ => by cases h
  | x :: xs, y :: ys, a, b, c, hl, h => by
    show wei ((c * 257 + x - y) % 4294967291) xs ys % p0 = (P (a * 257 + x + 1) xs - P (b * 257 + y + 1) ys) % p0
    exact wei_P xs ys _ _ _ (by simpa using hl) (by unfold p0 at *; omega)
theorem wei_lt : ∀ (xs ys : List Int) (c : Int), 0 ≤ c → c < p0 → 0 ≤ wei c xs ys ∧ wei c xs ys < p0
  | [], ys, c, h0, h1 => by cases ys <;> exact ⟨h0, h1⟩
  | x :: xs, [], c, h0, h1 => ⟨h0, h1⟩
  | x :: xs, y :: ys, c, h0, h1 => wei_lt xs ys _ (Int.emod_nonneg _ (by decide)) (Int.emod_lt_of_pos _ (by decide))
theorem pw_P : ∀ (n : Nat) (c : Int), pw n c % p0 = (c * 257 ^ n) % p0
  | 0, c => by simp [pw]
  | n + 1, c => by
    show pw n (c * 257 % 4294967291) % p0 = _
    rw [pw_P n, Int.pow_succ, Int.mul_emod, Int.emod_emod_of_dvd _ (Int.dvd_refl p0), ← Int.mul_emod, Int.mul_assoc, Int.mul_comm 257]
theorem cancel {x : Int} (h : p0 ∣ x * 257) : p0 ∣ x := by
  obtain ⟨t, ht⟩ := h
  exact ⟨t * 3225403452 - x * 193, by unfold p0 at *; omega⟩
theorem cancel_pow {x : Int} : ∀ n : Nat, p0 ∣ x * 257 ^ n → p0 ∣ x
  | 0, h => by simpa using h
  | n + 1, h => by
    rw [Int.pow_succ, ← Int.mul_assoc] at h
    exact cancel_pow n (cancel h)
theorem eq_iff {a b : Int} : a % p0 = b % p0 ↔ p0 ∣ a - b := Int.emod_eq_emod_iff_emod_sub_eq_zero.trans ⟨fun h => Int.dvd_of_emod_eq_zero h, fun h => Int.emod_eq_zero_of_dvd h⟩
/-- 1 -/
theorem law1 {xs ys : List Int} (hl : xs.length = ys.length) : (hsh 7 xs = hsh 7 ys) ↔ (wei 0 xs ys = 0) := by
  rw [hsh_P xs 7 (by decide) (by decide), hsh_P ys 7 (by decide) (by decide), eq_iff]
  have h := wei_P xs ys 7 7 0 hl (by decide)
  obtain ⟨h0, h1⟩ := wei_lt xs ys 0 (by decide) (by decide)
  rw [Int.emod_eq_of_lt h0 h1] at h
  rw [h]
  exact ⟨fun z => Int.emod_eq_zero_of_dvd z, fun z => Int.dvd_of_emod_eq_zero z⟩
/-- rows alike but at one place -/
theorem P_one : ∀ (xs ys : List Int) (j : Nat) (c : Int), xs.length = ys.length → (∀ i, i ≠ j → xs[i]? = ys[i]?) → ∀ x y, xs[j]? = some x → ys[j]? = some y → ∃ n : Nat, P c xs - P c ys = (x - y) * 257 ^ n
  | [], _, j, c, _, _, x, y, h, _ => by simp at h
  | _ :: _, [], j, c, hl, _, x, y, h, _ => by cases hl
  | a :: xs, b :: ys, 0, c, hl, h, x, y, hx, hy => by
    simp at hx hy
    subst hx hy
    have : xs = ys := List.ext_getElem? fun i => by simpa using h (i + 1) (by omega)
    subst this
    refine ⟨xs.length, ?_⟩
    show P (c * 257 + a + 1) xs - P (c * 257 + b + 1) xs = _
    rw [P_lin]
    congr 1
    omega
  | a :: xs, b :: ys, j + 1, c, hl, h, x, y, hx, hy => by
    have e : a = b := by simpa using h 0 (by omega)
    subst e
    exact P_one xs ys j (c * 257 + a + 1) (by simpa using hl) (fun i hi => by simpa using h (i + 1) (by omega)) x y (by simpa using hx) (by simpa using hy)
theorem law2 {xs ys : List Int} (hx : Oct xs) (hy : Oct ys) (hl : xs.length = ys.length) {j : Nat} (h : ∀ i, i ≠ j → xs[i]? = ys[i]?) (he : hsh 7 xs = hsh 7 ys) : xs = ys := by
  by_cases hj : j < xs.length
  · have hj2 : j < ys.length := by omega
    rw [hsh_P xs 7 (by decide) (by decide), hsh_P ys 7 (by decide) (by decide), eq_iff] at he
    obtain ⟨n, e⟩ := P_one xs ys j 7 hl h xs[j] ys[j] (List.getElem?_eq_getElem hj) (List.getElem?_eq_getElem hj2)
    rw [e] at he
    have hd := cancel_pow n he
    have b1 := hx xs[j] (List.getElem_mem hj)
    have b2 := hy ys[j] (List.getElem_mem hj2)
    have e2 : xs[j] = ys[j] := by
      obtain ⟨t, ht⟩ := hd
      unfold p0 at ht
      omega
    exact List.ext_getElem? fun i => by
      by_cases z : i = j
      · subst z; rw [List.getElem?_eq_getElem hj, List.getElem?_eq_getElem hj2, e2]
      · exact h i z
  · exact List.ext_getElem? fun i => by
      by_cases z : i = j
      · subst z; rw [List.getElem?_eq_none (by omega), List.getElem?_eq_none (by omega)]
      · exact h i z
/-- 3 -/
theorem law3 (xs ms : List Int) : (hsh 7 (xs ++ ms) - hsh 7 ms) % 4294967291 = ((hsh 7 xs - 7) * pw ms.length 1) % 4294967291 := by
  rw [hsh_P _ 7 (by decide) (by decide), hsh_P ms 7 (by decide) (by decide), hsh_P xs 7 (by decide) (by decide), P_app]
  have h1 : (P (P 7 xs) ms % p0 - P 7 ms % p0) % 4294967291 = (P (P 7 xs) ms - P 7 ms) % 4294967291 := by unfold p0; omega
  rw [h1, P_lin, Int.mul_emod, Int.mul_emod (P 7 xs % p0 - 7)]
  have h2 : pw ms.length 1 % 4294967291 = 257 ^ ms.length % 4294967291 := by
    have := pw_P ms.length 1
    rw [Int.one_mul] at this
    exact this
  have h3 : (P 7 xs % p0 - 7) % 4294967291 = (P 7 xs - 7) % 4294967291 := by unfold p0; omega
  rw [h2, h3]
/-- 4 -/
theorem law4 {xs ys : List Int} (ms : List Int) : (hsh 7 (xs ++ ms) = hsh 7 (ys ++ ms)) ↔ (hsh 7 xs = hsh 7 ys) := by
  rw [hsh_P _ 7 (by decide) (by decide), hsh_P _ 7 (by decide) (by decide), hsh_P xs 7 (by decide) (by decide), hsh_P ys 7 (by decide) (by decide), P_app, P_app, eq_iff, eq_iff, P_lin]
  exact ⟨fun h => cancel_pow _ h, fun h => Int.dvd_trans h (Int.dvd_mul_right _ _)⟩
theorem hsh_lt (xs : List Int) : 0 ≤ hsh 7 xs ∧ hsh 7 xs < 4294967291 := by
  rw [hsh_P xs 7 (by decide) (by decide)]
  exact ⟨Int.emod_nonneg _ (by decide), Int.emod_lt_of_pos _ (by decide)⟩
end K72
namespace K72
open Vd
theorem hD : Draws (ce_law.fn 7) := by
  have h := draws_ok (ce := ce_law_next) (ce' := ce_law_mixed) (i := 6) rfl
  exact h
theorem dedI_one : ∀ (ns : List Int), (dedI ns).length < 2 → ∃ z, ∀ n ∈ ns, n = z := by
  have key : ∀ (ns acc : List Int), (∀ x ∈ acc, x ∈ ns.foldl (fun acc n => if acc.any (· == n) then acc else acc ++ [n]) acc) ∧ ∀ x ∈ ns, x ∈ ns.foldl (fun acc n => if acc.any (· == n) then acc else acc ++ [n]) acc := by
    intro ns
    induction ns with
    | nil => intro acc; exact ⟨fun x h => h, fun x h => by simp at h⟩
    | cons n ns ih =>
      intro acc
      rw [List.foldl_cons]
      obtain ⟨h1, h2⟩ := ih (if acc.any (· == n) then acc else acc ++ [n])
      have h3 : n ∈ (if acc.any (· == n) then acc else acc ++ [n]) := by
        split
        · rename_i h
          obtain ⟨y, hy, e⟩ := List.any_eq_true.mp h
          rw [← eq_of_beq e]; exact hy
        · simp
      refine ⟨fun x h => h1 x ?_, fun x h => ?_⟩
      · split
        · exact h
        · simp [h]
      · rcases List.mem_cons.mp h with rfl | h
        · exact h1 _ h3
        · exact h2 x h
  intro ns h
  have k := (key ns []).2
  match hd : dedI ns, h with
  | [], _ => exact ⟨0, fun n hn => by have := k n hn; rw [show ns.foldl (fun acc n => if acc.any (· == n) then acc else acc ++ [n]) [] = dedI ns from rfl, hd] at this; simp at this⟩
  | [z], _ => exact ⟨z, fun n hn => by have := k n hn; rw [show ns.foldl (fun acc n => if acc.any (· == n) then acc else acc ++ [n]) [] = dedI ns from rfl, hd] at this; simpa using this⟩
/-- changes at places -/
structure Chg (pl xs ys : List Int) : Prop where
  len : ys.length = xs.length
  oct : Oct ys
  at' : ∀ i : Nat, ((i : Nat) : Int) ∉ pl → ys[i]? = xs[i]?
theorem chg_turns : ∀ (pl : List Int) (ys : List Int) (cs : List Int) (n : Nat) (o : OC) (s0 s2 s3 s5 s6 s7 s8 s9 s10 s11 s12 : SS), DS cs n o → n + 2 * pl.length < 2 ^ 61 → Oct ys → ys.length ≤ 1000 → (∀ x ∈ pl, 0 ≤ x ∧ x < ys.length) → s6.free = true →
    ∃ (zs : List Int) (o' : OC) (s6' : SS), forF (.nm 6) (exs ce_law [.sub (.var 4) (.var 6) (.ix (.lst [(.call 7 [(.var 1), (.int 256)]), (.int 0), (.int 255), (.bin .mod (.bi .int [(.bin .add (.ix (.var 4) (.var 6)) (.int 1))]) (.int 256))]) (.call 7 [(.var 1), (.int 4)]))]) (pl.map .int) [s0, .own false false o, s2, s3, .own false false (.ol (ys.map .int)), s5, s6, s7, s8, s9, s10, s11, s12] =
      .nx [s0, .own false false o', s2, s3, .own false false (.ol (zs.map .int)), s5, s6', s7, s8, s9, s10, s11, s12] ∧ DS cs (n + 2 * pl.length) o' ∧ Chg pl ys zs ∧ s6'.free = true
  | [], ys, cs, n, o, s0, s2, s3, s5, s6, s7, s8, s9, s10, s11, s12, D, _, hy, _, _, h6 => ⟨ys, o, s6, rfl, D, ⟨rfl, hy, fun _ _ => rfl⟩, h6⟩
  | x :: pl, ys, cs, n, o, s0, s2, s3, s5, s6, s7, s8, s9, s10, s11, s12, D, hn, hy, hl, hp, h6 => by
    obtain ⟨x0, x1⟩ := hp x (by simp)
    have hlen : n + 2 * (x :: pl).length = n + 2 + 2 * pl.length := by rw [List.length_cons]; omega
    -- the two draws
    obtain ⟨r, o1, q1, D1, r0, r1⟩ := draw_call hD (e := [s0, .own false false o, s2, s3, .own false false (.ol (ys.map .int)), s5, .dat (.int x), s7, s8, s9, s10, s11, s12]) (j := 1) (b := 256) rfl D (by omega) (by decide) (by decide)
    obtain ⟨i, o2, q2, D2, i0, i1⟩ := draw_call hD (e := [s0, .own false false o1, s2, s3, .own false false (.ol (ys.map .int)), s5, .dat (.int x), s7, s8, s9, s10, s11, s12]) (j := 1) (b := 4) rfl D1 (by omega) (by decide) (by decide)
    have hix : ixn ys.length x = some x.toNat := by unfold ixn; rw [if_pos x0, if_pos x1]
    have hxl : x.toNat < ys.length := by omega
    have hgy : ys[x.toNat]? = some ys[x.toNat] := List.getElem?_eq_getElem hxl
    have hyo := hy ys[x.toNat] (List.getElem_mem hxl)
    have hit : item (.lst (ys.map .int)) (.int x) = some (.int ys[x.toNat]) := by simp [item, hix, hgy]
    -- the value
    have step : ∀ v : Int, 0 ≤ v → v < 256 → item (.lst [.int r, .int 0, .int 255, .int ((ys[x.toNat] + 1) % 256)]) (.int i) = some (.int v) →
        ex ce_law (.sub (.var 4) (.var 6) (.ix (.lst [(.call 7 [(.var 1), (.int 256)]), (.int 0), (.int 255), (.bin .mod (.bi .int [(.bin .add (.ix (.var 4) (.var 6)) (.int 1))]) (.int 256))]) (.call 7 [(.var 1), (.int 4)]))) [s0, .own false false o, s2, s3, .own false false (.ol (ys.map .int)), s5, .dat (.int x), s7, s8, s9, s10, s11, s12] =
          .nx [s0, .own false false o2, s2, s3, .own false false (.ol ((ys.set x.toNat v).map .int)), s5, .dat (.int x), s7, s8, s9, s10, s11, s12] := by
      intro v _ _ hv
      simp [ex, ev, evs, q1, q2, op2, rd, rds, SS.rd, OC.toD, bfn, bop, fz, fzs, short, le_line, subV, hix, hit, hv, List.map_set]
    -- which one of the four
    have pick : ∃ v : Int, 0 ≤ v ∧ v < 256 ∧ item (.lst [.int r, .int 0, .int 255, .int ((ys[x.toNat] + 1) % 256)]) (.int i) = some (.int v) := by
      have hi : i = 0 ∨ i = 1 ∨ i = 2 ∨ i = 3 := by omega
      rcases hi with rfl | rfl | rfl | rfl
      · exact ⟨r, r0, r1, rfl⟩
      · exact ⟨0, by omega, by omega, rfl⟩
      · exact ⟨255, by omega, by omega, rfl⟩
      · exact ⟨_, by omega, by omega, rfl⟩
    obtain ⟨v, v0, v1, hv⟩ := pick
    have hst := step v v0 v1 hv
    have hoct : Oct (ys.set x.toNat v) := fun y hy' => by
      rcases List.mem_or_eq_of_mem_set hy' with h | rfl
      · exact hy y h
      · exact ⟨v0, v1⟩
    obtain ⟨zs, o', s6', q, D', C, z6⟩ := chg_turns pl (ys.set x.toNat v) cs (n + 2) o2 s0 s2 s3 s5 (.dat (.int x)) s7 s8 s9 s10 s11 s12 D2 (by omega) hoct (by simpa using hl) (fun y hy' => by rw [List.length_set]; exact hp y (by simp [hy'])) rfl
    refine ⟨zs, o', s6', ?_, by rw [hlen]; exact D', ⟨by rw [C.len, List.length_set], C.oct, fun k hk => ?_⟩, z6⟩
    · rw [← q]
      exact forF_nx (e1 := [s0, .own false false o, s2, s3, .own false false (.ol (ys.map .int)), s5, .dat (.int x), s7, s8, s9, s10, s11, s12]) (by simp [bindG, putS, h6]) (by rw [exs_nx hst, exs_nil])
    · rw [C.at' k (fun z => hk (by simp [z]))]
      have ne : x.toNat ≠ k := fun z => hk (by
        have : (k : Int) = x := by omega
        rw [this]; simp)
      rw [List.getElem?_set_ne ne]
end K72
namespace Vd
theorem DS.mono {cs : List Int} {n m : Nat} {o : OC} (h : DS cs n o) (k : n ≤ m) : DS cs m o := by
  obtain ⟨a, l, u, e, h1, h2, h3, h4, h5⟩ := h.at'
  exact ⟨h.ne, h.len, a, l, u, e, h1, by omega, h3, by omega, h5⟩
theorem plains_ints : ∀ xs : List Int, plains (xs.map .int) = true
  | [] => rfl
  | x :: xs => by simp [plains, plain, plains_ints xs]
theorem deps_ints : ∀ xs : List Int, deps (xs.map .int) = 0
  | [] => rfl
  | x :: xs => by simp [deps, dep, deps_ints xs]
theorem deqs_ints : ∀ xs ys : List Int, deqs (xs.map .int) (ys.map .int) = decide (xs = ys)
  | [], [] => rfl
  | [], _ :: _ => rfl
  | _ :: _, [] => rfl
  | x :: xs, y :: ys => by
    rw [List.map_cons, List.map_cons, deqs, deqs_ints xs ys]
    simp [deq]
    by_cases h : x = y <;> simp [h]
theorem intsD_ints : ∀ xs : List Int, intsD (xs.map .int) = some xs
  | [] => rfl
  | x :: xs => by simp [intsD, intsD_ints xs]
theorem ne_ints (xs ys : List Int) : cop .ne (.lst (xs.map .int)) (.lst (ys.map .int)) = some (!decide (xs = ys)) := by
  simp [cop, eqOk, plain, plains_ints, dep, deps_ints, deq, deqs_ints]
theorem eq_int (a b : Int) : cop .eq (.int a) (.int b) = some (decide (a = b)) := by
  simp [cop, eqOk, plain, dep, deq]
  by_cases h : a = b <;> simp [h]
theorem ne_bl (a b : Bool) : cop .ne (.bl a) (.bl b) = some (a != b) := by
  cases a <;> cases b <;> simp [cop, eqOk, plain, dep, deq]
theorem ne_int (a b : Int) : cop .ne (.int a) (.int b) = some (!decide (a = b)) := by
  simp [cop, eqOk, plain, dep, deq]
  by_cases h : a = b <;> simp [h]
theorem lt_int (a b : Int) : cop .lt (.int a) (.int b) = some (decide (a < b)) := rfl
theorem le_int (a b : Int) : cop .le (.int a) (.int b) = some (decide (a ≤ b)) := rfl
theorem gt_int (a b : Int) : cop .gt (.int a) (.int b) = some (decide (b < a)) := rfl
theorem ge_int (a b : Int) : cop .ge (.int a) (.int b) = some (decide (b ≤ a)) := rfl
theorem add_int (a b : Int) : bop .add (.int a) (.int b) = some (.p (.int (a + b))) := rfl
theorem sub_int (a b : Int) : bop .sub (.int a) (.int b) = some (.p (.int (a - b))) := rfl
theorem add_lst {a b : List D} (h : a.length + b.length ≤ line) : bop .add (.lst a) (.lst b) = some (.fr (.ol (a ++ b))) := by simp [bop, h]
theorem ex_ifs_f {ce : CE} {c : T} {a b : List S} {e e1 : VE} (h : evT ce c e = .ok false e1) : ex ce (.ifs c a b) e = exs ce b e1 := by
  rw [ex, h]; rfl
theorem ex_ifs_t {ce : CE} {c : T} {a b : List S} {e e1 : VE} (h : evT ce c e = .ok true e1) : ex ce (.ifs c a b) e = exs ce a e1 := by
  rw [ex, h]; rfl
end Vd
namespace K72
open Vd
def bBody : List S := [.set 3 (.lc (.call 7 [(.var 1), (.int 256)]) (.nm 12) .rng [(.bin .add (.int 1) (.call 7 [(.var 1), (.int 80)]))] none [12]),
    .set 4 (.bi .list [(.var 3)]),
    .set 5 (.lc (.call 7 [(.var 1), (.bi .len [(.var 3)])]) (.nm 12) .rng [(.call 7 [(.var 1), (.int 4)])] none [12]),
    .fors (.nm 6) .seq [(.var 5)] [.sub (.var 4) (.var 6) (.ix (.lst [(.call 7 [(.var 1), (.int 256)]), (.int 0), (.int 255), (.bin .mod (.bi .int [(.bin .add (.ix (.var 4) (.var 6)) (.int 1))]) (.int 256))]) (.call 7 [(.var 1), (.int 4)]))],
    .set 7 (.lc (.call 7 [(.var 1), (.int 256)]) (.nm 12) .rng [(.call 7 [(.var 1), (.int 20)])] none [12]),
    .par [8, 9] [(.call 4 [(.bi .tuple [(.var 3)])]), (.call 4 [(.bi .tuple [(.var 4)])])],
    .ifs (.cmp .ne (.cmp .eq (.var 8) (.var 9)) (.cmp .eq (.call 8 [(.var 3), (.var 4)]) (.int 0)))
    [.ret (.bl false)]
    [],
    .ifs (.and (.cmp .ne (.var 3) (.var 4)) (.and (.cmp .lt (.bi .setlen [(.var 5)]) (.int 2)) (.cmp .eq (.var 8) (.var 9))))
    [.ret (.bl false)]
    [],
    .par [10, 11] [(.call 4 [(.bi .tuple [(.bin .add (.var 3) (.var 7))])]), (.call 4 [(.bi .tuple [(.var 7)])])],
    .ifs (.cmp .ne (.bin .mod (.bi .int [(.bin .sub (.var 10) (.var 11))]) (.int 4294967291)) (.bin .mod (.bi .int [(.bin .mul (.bin .sub (.var 8) (.int 7)) (.call 9 [(.bi .len [(.var 7)])]))]) (.int 4294967291)))
    [.ret (.bl false)]
    [],
    .ifs (.or (.cmp .ne (.cmp .eq (.var 10) (.call 4 [(.bi .tuple [(.bin .add (.var 4) (.var 7))])])) (.cmp .eq (.var 8) (.var 9))) (.not (.chn .le .lt (.int 0) (.var 8) (.int 4294967291))))
    [.ret (.bl false)]
    []]
theorem check_call {xs : List Int} (h : Oct xs) (e : VE) : callR ce_law 4 [.p (.tup (xs.map .int))] e = .ok (.p (.int (hsh 7 xs))) e := by
  have e1 : ce_law.fn 4 [.p (.tup (xs.map .int))] = .ok (.p (.int (hsh 7 xs))) [.p (.tup (xs.map .int))] := check_ok h
  simp [callR, vws, argsOf, argOf, e1, putA, Ret.val]
theorem pow_call {n : Nat} (h : n ≤ 1000) (e : VE) : callR ce_law 9 [.p (.int n)] e = .ok (.p (.int (pw n 1))) e := by
  have e1 : ce_law.fn 9 [.p (.int n)] = .ok (.p (.int (pw n 1))) [.p (.int n)] := pow_ok h
  simp [callR, vws, argsOf, argOf, e1, putA, Ret.val]
theorem round (cs : List Int) (n : Nat) (o : OC) (s0 s2 s3 s4 s5 s6 s7 s8 s9 s10 s11 s12 : SS) (D : DS cs n o) (hn : n < 2 ^ 60) (h3 : s3.free = true) (h4 : s4.free = true) (h5 : s5.free = true) (h6 : s6.free = true) (h7 : s7.free = true) (h8 : s8.free = true) (h9 : s9.free = true) (h10 : s10.free = true) (h11 : s11.free = true) :
    ∃ (o' : OC) (t3 t4 t5 t6 t7 t8 t9 t10 t11 : SS), exs ce_law bBody [s0, .own false false o, s2, s3, s4, s5, s6, s7, s8, s9, s10, s11, s12] = .nx [s0, .own false false o', s2, t3, t4, t5, t6, t7, t8, t9, t10, t11, s12] ∧ DS cs (n + 500) o' ∧
      t3.free = true ∧ t4.free = true ∧ t5.free = true ∧ t6.free = true ∧ t7.free = true ∧ t8.free = true ∧ t9.free = true ∧ t10.free = true ∧ t11.free = true := by
  -- one
  obtain ⟨r1, o1, q1, D1, a1, b1⟩ := draw_call hD (e := [s0, .own false false o, s2, s3, s4, s5, s6, s7, s8, s9, s10, s11, s12]) (j := 1) (b := 80) rfl D (by omega) (by decide) (by decide)
  have t1 : ev ce_law (.bin .add (.int 1) (.call 7 [(.var 1), (.int 80)])) [s0, .own false false o, s2, s3, s4, s5, s6, s7, s8, s9, s10, s11, s12] = .ok (.p (.int (1 + r1))) [s0, .own false false o1, s2, s3, s4, s5, s6, s7, s8, s9, s10, s11, s12] := by simp [ev, evs, q1, op2, rd, bop]
  obtain ⟨xs, o2, q2, D2, lx, hx⟩ := ev_lc_draws hD (j := 1) (c := 12) (by decide) (b := 256) (m := 1 + r1) (tb := .int 256) (by decide) (by decide) (s := s12) t1 (by omega) (by omega) (fun o' d => by simp [ev]) rfl rfl D1 (by omega)
  have st1 : ex ce_law (.set 3 (.lc (.call 7 [(.var 1), (.int 256)]) (.nm 12) .rng [(.bin .add (.int 1) (.call 7 [(.var 1), (.int 80)]))] none [12])) [s0, .own false false o, s2, s3, s4, s5, s6, s7, s8, s9, s10, s11, s12] = .nx [s0, .own false false o2, s2, .own false false (.ol (xs.map .int)), s4, s5, s6, s7, s8, s9, s10, s11, s12] := ex_set q2 (setV_fr rfl h3)
  -- other
  have st2 : ex ce_law (.set 4 (.bi .list [(.var 3)])) [s0, .own false false o2, s2, .own false false (.ol (xs.map .int)), s4, s5, s6, s7, s8, s9, s10, s11, s12] = .nx [s0, .own false false o2, s2, .own false false (.ol (xs.map .int)), .own false false (.ol (xs.map .int)), s5, s6, s7, s8, s9, s10, s11, s12] :=
    ex_set (v := .fr (.ol (xs.map .int))) (e1 := [s0, .own false false o2, s2, .own false false (.ol (xs.map .int)), s4, s5, s6, s7, s8, s9, s10, s11, s12]) (by simp [ev, evs, rds, rd, SS.rd, OC.toD, bfn]) (setV_fr rfl h4)
  -- places
  have hxs : (xs.length : Int) = 1 + r1 := by omega
  obtain ⟨r2, o3, q3, D3, a3, b3⟩ := draw_call hD (e := [s0, .own false false o2, s2, .own false false (.ol (xs.map .int)), .own false false (.ol (xs.map .int)), s5, s6, s7, s8, s9, s10, s11, s12]) (j := 1) (b := 4) rfl D2 (by omega) (by decide) (by decide)
  have t3 : ev ce_law (.call 7 [(.var 1), (.int 4)]) [s0, .own false false o2, s2, .own false false (.ol (xs.map .int)), .own false false (.ol (xs.map .int)), s5, s6, s7, s8, s9, s10, s11, s12] = .ok (.p (.int r2)) [s0, .own false false o3, s2, .own false false (.ol (xs.map .int)), .own false false (.ol (xs.map .int)), s5, s6, s7, s8, s9, s10, s11, s12] := by simp [ev, evs, q3]
  obtain ⟨pl, o4, q4, D4, lp, hp⟩ := ev_lc_draws hD (j := 1) (c := 12) (by decide) (b := xs.length) (m := r2) (tb := .bi .len [(.var 3)]) (by omega) (by omega) (s := s12) t3 (by omega) (by omega) (fun o' d => by simp [ev, evs, rds, rd, SS.rd, OC.toD, bfn, lenD]) rfl rfl D3 (by omega)
  have st3 : ex ce_law (.set 5 (.lc (.call 7 [(.var 1), (.bi .len [(.var 3)])]) (.nm 12) .rng [(.call 7 [(.var 1), (.int 4)])] none [12])) [s0, .own false false o2, s2, .own false false (.ol (xs.map .int)), .own false false (.ol (xs.map .int)), s5, s6, s7, s8, s9, s10, s11, s12] = .nx [s0, .own false false o4, s2, .own false false (.ol (xs.map .int)), .own false false (.ol (xs.map .int)), .own false false (.ol (pl.map .int)), s6, s7, s8, s9, s10, s11, s12] := ex_set q4 (setV_fr rfl h5)
  -- changes
  obtain ⟨ys, o5, t6, q5, D5, C, f6⟩ := chg_turns pl xs cs _ o4 s0 s2 (.own false false (.ol (xs.map .int))) (.own false true (.ol (pl.map .int))) s6 s7 s8 s9 s10 s11 s12 D4 (by omega) hx (by omega) (fun y hy => by have := hp y hy; omega) h6
  have st4 := ex_for (ce := ce_law) (k := .seq) (ts := [(.var 5)]) (vs := [.vw 5]) (its := pl.map .int) (e := [s0, .own false false o4, s2, .own false false (.ol (xs.map .int)), .own false false (.ol (xs.map .int)), .own false false (.ol (pl.map .int)), s6, s7, s8, s9, s10, s11, s12]) (e0 := [s0, .own false false o4, s2, .own false false (.ol (xs.map .int)), .own false false (.ol (xs.map .int)), .own false false (.ol (pl.map .int)), s6, s7, s8, s9, s10, s11, s12]) (by simp [ev, evs, itsOf, itOf, rds, rd, SS.rd, OC.toD, seqOf]) q5
  have st4' : unlockE [s0, .own false false o4, s2, .own false false (.ol (xs.map .int)), .own false false (.ol (xs.map .int)), .own false false (.ol (pl.map .int)), s6, s7, s8, s9, s10, s11, s12] (vws [.vw 5]) [s0, .own false false o5, s2, .own false false (.ol (xs.map .int)), .own false false (.ol (ys.map .int)), .own false true (.ol (pl.map .int)), t6, s7, s8, s9, s10, s11, s12] = [s0, .own false false o5, s2, .own false false (.ol (xs.map .int)), .own false false (.ol (ys.map .int)), .own false false (.ol (pl.map .int)), t6, s7, s8, s9, s10, s11, s12] := by
    simp [unlockE, vws, SS.lock, SS.lk]
  rw [st4'] at st4
  -- more
  obtain ⟨r6, o6, q6, D6, a6, b6⟩ := draw_call hD (e := [s0, .own false false o5, s2, .own false false (.ol (xs.map .int)), .own false false (.ol (ys.map .int)), .own false false (.ol (pl.map .int)), t6, s7, s8, s9, s10, s11, s12]) (j := 1) (b := 20) rfl D5 (by omega) (by decide) (by decide)
  have t7 : ev ce_law (.call 7 [(.var 1), (.int 20)]) [s0, .own false false o5, s2, .own false false (.ol (xs.map .int)), .own false false (.ol (ys.map .int)), .own false false (.ol (pl.map .int)), t6, s7, s8, s9, s10, s11, s12] = .ok (.p (.int r6)) [s0, .own false false o6, s2, .own false false (.ol (xs.map .int)), .own false false (.ol (ys.map .int)), .own false false (.ol (pl.map .int)), t6, s7, s8, s9, s10, s11, s12] := by simp [ev, evs, q6]
  obtain ⟨ms, o7, q7, D7, lm, hm⟩ := ev_lc_draws hD (j := 1) (c := 12) (by decide) (b := 256) (m := r6) (tb := .int 256) (by decide) (by decide) (s := s12) t7 (by omega) (by omega) (fun o' d => by simp [ev]) rfl rfl D6 (by omega)
  have st5 : ex ce_law (.set 7 (.lc (.call 7 [(.var 1), (.int 256)]) (.nm 12) .rng [(.call 7 [(.var 1), (.int 20)])] none [12])) [s0, .own false false o5, s2, .own false false (.ol (xs.map .int)), .own false false (.ol (ys.map .int)), .own false false (.ol (pl.map .int)), t6, s7, s8, s9, s10, s11, s12] = .nx [s0, .own false false o7, s2, .own false false (.ol (xs.map .int)), .own false false (.ol (ys.map .int)), .own false false (.ol (pl.map .int)), t6, .own false false (.ol (ms.map .int)), s8, s9, s10, s11, s12] := ex_set q7 (setV_fr rfl h7)
  -- the sums
  have ox : Oct xs := hx
  have om : Oct ms := hm
  have oxm : Oct (xs ++ ms) := fun z hz => (List.mem_append.mp hz).elim (ox z) (om z)
  have oym : Oct (ys ++ ms) := fun z hz => (List.mem_append.mp hz).elim (C.oct z) (om z)
  have cx := fun e => check_call ox e
  have cy := fun e => check_call C.oct e
  have cm := fun e => check_call om e
  have cxm := fun e => check_call oxm e
  have cym := fun e => check_call oym e
  simp only [List.map_append] at cxm cym
  have st6 : ex ce_law (.par [8, 9] [(.call 4 [(.bi .tuple [(.var 3)])]), (.call 4 [(.bi .tuple [(.var 4)])])]) [s0, .own false false o7, s2, .own false false (.ol (xs.map .int)), .own false false (.ol (ys.map .int)), .own false false (.ol (pl.map .int)), t6, .own false false (.ol (ms.map .int)), s8, s9, s10, s11, s12] = .nx [s0, .own false false o7, s2, .own false false (.ol (xs.map .int)), .own false false (.ol (ys.map .int)), .own false false (.ol (pl.map .int)), t6, .own false false (.ol (ms.map .int)), .dat (.int (hsh 7 xs)), .dat (.int (hsh 7 ys)), s10, s11, s12] := by
    simp [ex, ev, evs, rds, rd, SS.rd, OC.toD, bfn, cx, cy, fzVs, fzV, setVs, setV, putS, h8, h9]
  have hlen : xs.length = ys.length := C.len.symm
  have st7 : evT ce_law (.cmp .ne (.cmp .eq (.var 8) (.var 9)) (.cmp .eq (.call 8 [(.var 3), (.var 4)]) (.int 0))) [s0, .own false false o7, s2, .own false false (.ol (xs.map .int)), .own false false (.ol (ys.map .int)), .own false false (.ol (pl.map .int)), t6, .own false false (.ol (ms.map .int)), .dat (.int (hsh 7 xs)), .dat (.int (hsh 7 ys)), s10, s11, s12] = .ok false [s0, .own false false o7, s2, .own false false (.ol (xs.map .int)), .own false false (.ol (ys.map .int)), .own false false (.ol (pl.map .int)), t6, .own false false (.ol (ms.map .int)), .dat (.int (hsh 7 xs)), .dat (.int (hsh 7 ys)), s10, s11, s12] := by
    have w : ce_law.fn 8 [.o false (.ol (xs.map .int)), .o false (.ol (ys.map .int))] = _ := wei_ok xs ys
    have l1 := law1 hlen
    simp [evT_cmp, ev, evs, op2, rd, eq_int, ne_bl, blV, callR, vws, argsOf, argOf, w, putA, Ret.val, SS.put, l1]
  have hpl4 : pl.length ≤ 4000 := by omega
  have st8 : evT ce_law (.and (.cmp .ne (.var 3) (.var 4)) (.and (.cmp .lt (.bi .setlen [(.var 5)]) (.int 2)) (.cmp .eq (.var 8) (.var 9)))) [s0, .own false false o7, s2, .own false false (.ol (xs.map .int)), .own false false (.ol (ys.map .int)), .own false false (.ol (pl.map .int)), t6, .own false false (.ol (ms.map .int)), .dat (.int (hsh 7 xs)), .dat (.int (hsh 7 ys)), s10, s11, s12] = .ok false [s0, .own false false o7, s2, .own false false (.ol (xs.map .int)), .own false false (.ol (ys.map .int)), .own false false (.ol (pl.map .int)), t6, .own false false (.ol (ms.map .int)), .dat (.int (hsh 7 xs)), .dat (.int (hsh 7 ys)), s10, s11, s12] := by
    by_cases c1 : xs = ys
    · simp [evT, ev, op2, op1, rd, SS.rd, OC.toD, ne_ints, c1, blV, tru]
    · by_cases c2 : (dedI pl).length < 2
      · have c3 : ¬ hsh 7 xs = hsh 7 ys := fun z => by
          obtain ⟨y, hy⟩ := dedI_one pl c2
          refine c1 (law2 ox C.oct hlen (j := y.toNat) (fun i hi => (C.at' i fun hm' => hi ?_).symm) z)
          have := hy _ hm'
          omega
        have c2' : ((dedI pl).length : Int) < 2 := by omega
        simp [evT, ev, evs, op2, op1, rd, rds, SS.rd, OC.toD, ne_ints, c1, blV, tru, bfn, intsD_ints, hpl4, lt_int, c2', eq_int, c3]
      · have c2' : ¬ ((dedI pl).length : Int) < 2 := by omega
        simp [evT, ev, evs, op2, op1, rd, rds, SS.rd, OC.toD, ne_ints, c1, blV, tru, bfn, intsD_ints, hpl4, lt_int, c2']
  have hl1 : xs.length + ms.length ≤ line := by unfold line; omega
  have hl2 : ys.length + ms.length ≤ line := by unfold line; omega
  have st9 : ex ce_law (.par [10, 11] [(.call 4 [(.bi .tuple [(.bin .add (.var 3) (.var 7))])]), (.call 4 [(.bi .tuple [(.var 7)])])]) [s0, .own false false o7, s2, .own false false (.ol (xs.map .int)), .own false false (.ol (ys.map .int)), .own false false (.ol (pl.map .int)), t6, .own false false (.ol (ms.map .int)), .dat (.int (hsh 7 xs)), .dat (.int (hsh 7 ys)), s10, s11, s12] = .nx [s0, .own false false o7, s2, .own false false (.ol (xs.map .int)), .own false false (.ol (ys.map .int)), .own false false (.ol (pl.map .int)), t6, .own false false (.ol (ms.map .int)), .dat (.int (hsh 7 xs)), .dat (.int (hsh 7 ys)), .dat (.int (hsh 7 (xs ++ ms))), .dat (.int (hsh 7 ms)), s12] := by
    simp [ex, ev, evs, op2, rds, rd, SS.rd, OC.toD, bfn, bop, hl1, cxm, cm, fzVs, fzV, setVs, setV, putS, h10, h11]
  obtain ⟨g0, g1⟩ := hsh_lt xs
  have hbig : -big < hsh 7 xs - 7 ∧ hsh 7 xs - 7 < big := by unfold big; omega
  have pwc := fun e => pow_call (n := ms.length) (by omega) e
  have l3 := law3 xs ms
  have st10 : evT ce_law (.cmp .ne (.bin .mod (.bi .int [(.bin .sub (.var 10) (.var 11))]) (.int 4294967291)) (.bin .mod (.bi .int [(.bin .mul (.bin .sub (.var 8) (.int 7)) (.call 9 [(.bi .len [(.var 7)])]))]) (.int 4294967291))) [s0, .own false false o7, s2, .own false false (.ol (xs.map .int)), .own false false (.ol (ys.map .int)), .own false false (.ol (pl.map .int)), t6, .own false false (.ol (ms.map .int)), .dat (.int (hsh 7 xs)), .dat (.int (hsh 7 ys)), .dat (.int (hsh 7 (xs ++ ms))), .dat (.int (hsh 7 ms)), s12] = .ok false [s0, .own false false o7, s2, .own false false (.ol (xs.map .int)), .own false false (.ol (ys.map .int)), .own false false (.ol (pl.map .int)), t6, .own false false (.ol (ms.map .int)), .dat (.int (hsh 7 xs)), .dat (.int (hsh 7 ys)), .dat (.int (hsh 7 (xs ++ ms))), .dat (.int (hsh 7 ms)), s12] := by
    simp [evT_cmp, ev, evs, op2, rds, rd, SS.rd, OC.toD, bfn, lenD, mod_s, mul_s1, sub_int, hbig, pwc, ne_int, l3]
  have l4 := law4 (xs := xs) (ys := ys) ms
  have st11 : evT ce_law (.or (.cmp .ne (.cmp .eq (.var 10) (.call 4 [(.bi .tuple [(.bin .add (.var 4) (.var 7))])])) (.cmp .eq (.var 8) (.var 9))) (.not (.chn .le .lt (.int 0) (.var 8) (.int 4294967291)))) [s0, .own false false o7, s2, .own false false (.ol (xs.map .int)), .own false false (.ol (ys.map .int)), .own false false (.ol (pl.map .int)), t6, .own false false (.ol (ms.map .int)), .dat (.int (hsh 7 xs)), .dat (.int (hsh 7 ys)), .dat (.int (hsh 7 (xs ++ ms))), .dat (.int (hsh 7 ms)), s12] = .ok false [s0, .own false false o7, s2, .own false false (.ol (xs.map .int)), .own false false (.ol (ys.map .int)), .own false false (.ol (pl.map .int)), t6, .own false false (.ol (ms.map .int)), .dat (.int (hsh 7 xs)), .dat (.int (hsh 7 ys)), .dat (.int (hsh 7 (xs ++ ms))), .dat (.int (hsh 7 ms)), s12] := by
    simp [evT, ev, evs, op1, op2, rds, rd, SS.rd, OC.toD, bfn, add_lst, hl2, cym, eq_int, ne_bl, l4, blV, tru, le_int, lt_int, g0, g1]
  refine ⟨o7, .own false false (.ol (xs.map .int)), .own false false (.ol (ys.map .int)), .own false false (.ol (pl.map .int)), t6, .own false false (.ol (ms.map .int)), .dat (.int (hsh 7 xs)), .dat (.int (hsh 7 ys)), .dat (.int (hsh 7 (xs ++ ms))), .dat (.int (hsh 7 ms)), ?_, D7.mono (by omega), rfl, rfl, rfl, f6, rfl, rfl, rfl, rfl, rfl⟩
  unfold bBody
  rw [exs_nx st1, exs_nx st2, exs_nx st3, exs_nx st4, exs_nx st5, exs_nx st6]
  rw [exs_nx (e1 := [s0, .own false false o7, s2, .own false false (.ol (xs.map .int)), .own false false (.ol (ys.map .int)), .own false false (.ol (pl.map .int)), t6, .own false false (.ol (ms.map .int)), .dat (.int (hsh 7 xs)), .dat (.int (hsh 7 ys)), s10, s11, s12]) (by rw [ex_ifs_f st7, exs_nil]), exs_nx (e1 := [s0, .own false false o7, s2, .own false false (.ol (xs.map .int)), .own false false (.ol (ys.map .int)), .own false false (.ol (pl.map .int)), t6, .own false false (.ol (ms.map .int)), .dat (.int (hsh 7 xs)), .dat (.int (hsh 7 ys)), s10, s11, s12]) (by rw [ex_ifs_f st8, exs_nil]), exs_nx st9]
  rw [exs_nx (e1 := [s0, .own false false o7, s2, .own false false (.ol (xs.map .int)), .own false false (.ol (ys.map .int)), .own false false (.ol (pl.map .int)), t6, .own false false (.ol (ms.map .int)), .dat (.int (hsh 7 xs)), .dat (.int (hsh 7 ys)), .dat (.int (hsh 7 (xs ++ ms))), .dat (.int (hsh 7 ms)), s12]) (by rw [ex_ifs_f st10, exs_nil]), exs_nx (e1 := [s0, .own false false o7, s2, .own false false (.ol (xs.map .int)), .own false false (.ol (ys.map .int)), .own false false (.ol (pl.map .int)), t6, .own false false (.ol (ms.map .int)), .dat (.int (hsh 7 xs)), .dat (.int (hsh 7 ys)), .dat (.int (hsh 7 (xs ++ ms))), .dat (.int (hsh 7 ms)), s12]) (by rw [ex_ifs_f st11, exs_nil]), exs_nil]
end K72
namespace K72
open Vd
theorem rounds (cs : List Int) : ∀ (l : List D) (n : Nat) (o : OC) (s0 s2 s3 s4 s5 s6 s7 s8 s9 s10 s11 s12 : SS), DS cs n o → n + 500 * l.length < 2 ^ 60 → s2.free = true → s3.free = true → s4.free = true → s5.free = true → s6.free = true → s7.free = true → s8.free = true → s9.free = true → s10.free = true → s11.free = true →
    ∃ (o' : OC) (t2 t3 t4 t5 t6 t7 t8 t9 t10 t11 : SS), forF (.nm 2) (exs ce_law bBody) l [s0, .own false false o, s2, s3, s4, s5, s6, s7, s8, s9, s10, s11, s12] = .nx [s0, .own false false o', t2, t3, t4, t5, t6, t7, t8, t9, t10, t11, s12]
  | [], n, o, s0, s2, s3, s4, s5, s6, s7, s8, s9, s10, s11, s12, _, _, _, _, _, _, _, _, _, _, _, _ => ⟨o, s2, s3, s4, s5, s6, s7, s8, s9, s10, s11, rfl⟩
  | d :: l, n, o, s0, s2, s3, s4, s5, s6, s7, s8, s9, s10, s11, s12, DD, hn, h2, h3, h4, h5, h6, h7, h8, h9, h10, h11 => by
    rw [List.length_cons] at hn
    obtain ⟨o1, t3, t4, t5, t6, t7, t8, t9, t10, t11, q, D1, f3, f4, f5, f6, f7, f8, f9, f10, f11⟩ := round cs n o s0 (.dat d) s3 s4 s5 s6 s7 s8 s9 s10 s11 s12 DD (by omega) h3 h4 h5 h6 h7 h8 h9 h10 h11
    obtain ⟨o2, u2, u3, u4, u5, u6, u7, u8, u9, u10, u11, q2⟩ := rounds cs l (n + 500) o1 s0 (.dat d) t3 t4 t5 t6 t7 t8 t9 t10 t11 s12 D1 (by omega) rfl f3 f4 f5 f6 f7 f8 f9 f10 f11
    refine ⟨o2, u2, u3, u4, u5, u6, u7, u8, u9, u10, u11, ?_⟩
    rw [← q2]
    exact forF_nx (e1 := [s0, .own false false o, .dat d, s3, s4, s5, s6, s7, s8, s9, s10, s11, s12]) (by simp [bindG, putS, h2]) q
theorem law_true (ns : List Int) (h : ns.length ≤ 63) : ∃ l, F_law [.p (.lst (ns.map .int))] = .ok (.p (.bl true)) l := by
  obtain ⟨o, q, D0⟩ := begin_ds (ce := ce_law_begin) (ns := ns) (by omega)
  obtain ⟨o2, u2, u3, u4, u5, u6, u7, u8, u9, u10, u11, q2⟩ := rounds (ns ++ [0]) ((List.range 8).map fun k => .int (k : Nat)) 0 o (.dat (.lst (ns.map .int))) .un .un .un .un .un .un .un .un .un .un .un D0 (by simp) rfl rfl rfl rfl rfl rfl rfl rfl rfl rfl
  refine ⟨[.p (.lst (ns.map .int))], ?_⟩
  show runO [.p (.lst (ns.map .int))] (exs ce_law b_law [.dat (.lst (ns.map .int)), .un, .un, .un, .un, .un, .un, .un, .un, .un, .un, .un, .un]) = _
  have w : ce_law.fn 5 [.p (.lst (ns.map .int))] = .ok (.fr o) [.p (.lst (ns.map .int))] := q
  have st1 : ex ce_law (.set 1 (.call 5 [(.var 0)])) [.dat (.lst (ns.map .int)), .un, .un, .un, .un, .un, .un, .un, .un, .un, .un, .un, .un] = .nx [.dat (.lst (ns.map .int)), .own false false o, .un, .un, .un, .un, .un, .un, .un, .un, .un, .un, .un] := by
    simp [ex, ev, evs, callR, vws, argsOf, argOf, w, putA, Ret.val, setV, putS]
  have hi : itOf .rng [.int 8] = some ((List.range 8).map fun k => .int (k : Nat)) := by
    show rngOf [.int 8] = _
    unfold rngOf
    have : -(2 ^ 61) ≤ (8 : Int) ∧ (8 : Int) ≤ (line : Int) := by unfold line; omega
    simp only [this, and_self, if_true]
    rfl
  have st2 : ex ce_law (.fors (.nm 2) .rng [(.int 8)] bBody) [.dat (.lst (ns.map .int)), .own false false o, .un, .un, .un, .un, .un, .un, .un, .un, .un, .un, .un] = .nx [.dat (.lst (ns.map .int)), .own false false o2, u2, u3, u4, u5, u6, u7, u8, u9, u10, u11, .un] :=
    ex_for0 (vs := [.p (.int 8)]) (its := (List.range 8).map fun k => .int (k : Nat)) (by simp [ev, evs, itsOf, hi, rds, rd]) rfl q2
  have hb : b_law = [.set 1 (.call 5 [(.var 0)]), .fors (.nm 2) .rng [(.int 8)] bBody, .ret (.bl true)] := rfl
  rw [hb, exs_nx st1, exs_nx st2]
  simp [exs, ex, ev, retV, runO, backA]
end K72
open PySem PySem.W PyProof.Rows
set_option maxHeartbeats 0 in
theorem PySem.Challenge.cw_bookpack_k72_whole_checks_holds : PySem.Challenge.rw_bookpack_k72_whole_checks.Holds := by
  w_on; o_law; k_head; (case hw => w_witness2)
  k_fill
  refine L2.walk_of (l := PySem.Challenge.rw_bookpack_k72_whole_checks) (n := 63) (k := 5) (x := "_law_script") (CX := fun w => L2.CX PySem.Challenge.rw_bookpack_k72_whole_checks.prog w) (sp := fun w => Vd.spD (Vd.g0 _) 1 K72.F_law) rfl (by decide) rfl ⟨rfl, by decide, by decide⟩ (fun w h Y => PySem.W.kIn_of Y) ?F (fun _ _ a ns hl _ hS => Vd.law_sp 63 K72.law_true hl hS) (fun _ _ _ _ _ h => Vd.cx_no h)
  case F =>
    intro w mg fa h KX G hmg
    refine' K72.all_mk KX G hmg ?a1 ?l1 ?c1 ?k1 ?a2 ?l2 ?c2 ?k2 ?a3 ?l3 ?c3 ?k3 ?a4 ?l4 ?c4 ?k4 ?a5 ?l5 ?c5 ?k5 ?a6 ?l6 ?c6 ?k6 ?a7 ?l7 ?c7 ?k7 ?a8 ?l8 ?c8 ?k8 ?a9 ?l9 ?c9 ?k9 ?a10 ?l10 ?c10 ?k10 ?a11 ?l11 ?c11 ?k11 ?z1 ?z2 ?z3 ?z4 ?z5 ?z6 ?z7 ?z8 ?z9 ?z10 ?v1 ?v2 ?v3 ?v4
    (case a1 => k_is)
    (case l1 => k_is)
    (case c1 => k_is)
    (case k1 => k_is)
    (case a2 => k_is)
    (case l2 => k_is)
    (case c2 => k_is)
    (case k2 => k_is)
    (case a3 => k_is)
    (case l3 => k_is)
    (case c3 => k_is)
    (case k3 => k_is)
    (case a4 => k_is)
    (case l4 => k_is)
    (case c4 => k_is)
    (case k4 => k_is)
    (case a5 => k_is)
    (case l5 => k_is)
    (case c5 => k_is)
    (case k5 => k_is)
    (case a6 => k_is)
    (case l6 => k_is)
    (case c6 => k_is)
    (case k6 => k_is)
    (case a7 => k_is)
    (case l7 => k_is)
    (case c7 => k_is)
    (case k7 => k_is)
    (case a8 => k_is)
    (case l8 => k_is)
    (case c8 => k_is)
    (case k8 => k_is)
    (case a9 => k_is)
    (case l9 => k_is)
    (case c9 => k_is)
    (case k9 => k_is)
    (case a10 => k_is)
    (case l10 => k_is)
    (case c10 => k_is)
    (case k10 => k_is)
    (case a11 => k_is)
    (case l11 => k_is)
    (case c11 => k_is)
    (case k11 => k_is)
    (case z1 => k_is)
    (case z2 => k_is)
    (case z3 => k_is)
    (case z4 => k_is)
    (case z5 => k_is)
    (case z6 => k_is)
    (case z7 => k_is)
    (case z8 => k_is)
    (case z9 => k_is)
    (case z10 => k_is)
    (case v1 => k_is)
    (case v2 => k_is)
    (case v3 => k_is)
    (case v4 => k_is)

