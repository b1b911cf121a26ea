import PyProof.Rows.All
import Wide.All
import OpenK.AllK
import Wide.FinOn
import HandS.ForMost
import HandS.Evl
import HandS.Exc
import HandS.ExcOwn
import HandS.TryOnly
import HandS.FStr
import HandS.Flow
import HandS.Style
import HandS.Deep
import HandS.Wide
import HandS.WideBits
import HandS.Zip
import HandS.Conv
import KE.SortData
import HandS.DictComp
import HandS.Walk
import KE.GoesEnum
import HandS.IsInst
import HandS.Star
import HandS.Strs
import HandS.SetKeys
import HandS.Sort
import KE.DataAny
import PyProof.Rows.NestShow
import PyProof.CallFns
import PyProof.Rows.RuleB_or
import PyProof.Rows.RuleB_and
import HandS.Words
import HandS.Defaults
import HandS.GenCall
import HandS.GenList
import PyProof.StrLawsTight
import PyProof.StrLawsRepr
import PySem.Challenge.RW_nofirst_k47_whole_lots
set_option Elab.async false
set_option linter.all false
set_option maxHeartbeats 4000000
set_option maxRecDepth 100000
/-! ## DLa -/
/-! DL: data without addresses, and what a Python expression is worth over it. -/
namespace DL
open PySem L2

inductive D where
  | non
  | bl (b : Bool)
  | int (i : Int)
  | str (s : Str)
  | tup (xs : List D)
  | lst (xs : List D)
  | scr (ns : List Int)
  | rng (lo hi : Int)
  | dct (kvs : List (Key × D))
  | obj (C : Nat) (fs : List (Str × D))
  deriving Inhabited

/-- what the top has made: the written part, the classes by number -/
structure Tb where
  K : PySem.W.Frag
  ca : Nat → Addr

mutual
/-- v stands for the data in the heap B -/
def RD (G : Tb) (B : Hp) : D → V → Prop
  | .non, v => v = .non
  | .bl b, v => v = .bl b
  | .int i, v => v = .int i
  | .str s, v => v = .str s
  | .tup ds, v => ∃ a vs, v = .ref a ∧ SqT G.K B a vs ∧ RDs G B ds vs
  | .lst ds, v => ∃ a vs, v = .ref a ∧ B a = some (.lst vs) ∧ RDs G B ds vs
  | .scr ns, v => ∃ a, v = .ref a ∧ SqL G.K B a (ns.map V.int)
  | .rng lo hi, v => ∃ a, v = .ref a ∧ B a = some (.rng lo hi)
  | .dct kvs, v => ∃ a ws, v = .ref a ∧ B a = some (.dK ws) ∧ RDk G B kvs ws
  | .obj C fs, v => ∃ a dx ws, v = .ref a ∧ B a = some (.ins (G.ca C) dx ws) ∧ RDf G B fs ws
def RDs (G : Tb) (B : Hp) : List D → List V → Prop
  | [], vs => vs = []
  | d :: ds, vs => ∃ v r, vs = v :: r ∧ RD G B d v ∧ RDs G B ds r
def RDk (G : Tb) (B : Hp) : List (Key × D) → List (Key × V) → Prop
  | [], vs => vs = []
  | (k, d) :: ds, vs => ∃ v r, vs = (k, v) :: r ∧ RD G B d v ∧ RDk G B ds r
def RDf (G : Tb) (B : Hp) : List (Str × D) → List (Str × V) → Prop
  | [], vs => vs = []
  | (k, d) :: ds, vs => ∃ v r, vs = (k, v) :: r ∧ RD G B d v ∧ RDf G B ds r
end

def Ex (H H' : Hp) : Prop := ∀ a o, H a = some o → H' a = some o
theorem Ex.refl (H : Hp) : Ex H H := fun _ _ h => h
theorem Ex.trans {H H1 H2 : Hp} (a : Ex H H1) (b : Ex H1 H2) : Ex H H2 := fun x o h => b x o (a x o h)
theorem Ex.new {H : Hp} {p : Addr} {o : HO} (h : H p = none) : Ex H (upd H p o) := fun a u e => by
  rw [upd_ne (ne_of_none e h)]; exact e
theorem Ex.back {H H' : Hp} {p : Addr} (e : Ex H H') (h : H' p = none) : H p = none := by
  cases h1 : H p with
  | none => rfl
  | some o => rw [e p o h1] at h; cases h
theorem ex_rd {H H' : Hp} {a : Addr} {u : HO} (e : Ex H H') (h : Rd H a u) : Rd H' a u := by
  rcases h with h | ⟨o, h⟩
  · exact .inl (e a _ h)
  · exact .inr ⟨o, e a _ h⟩
theorem ex_l {K : PySem.W.Frag} {H H' : Hp} {a : Addr} {xs : List V} (e : Ex H H') (h : SqL K H a xs) : SqL K H' a xs := by
  rcases h with h | h
  · exact .inl (ex_rd e h)
  · exact .inr h
theorem ex_t {K : PySem.W.Frag} {H H' : Hp} {a : Addr} {xs : List V} (e : Ex H H') (h : SqT K H a xs) : SqT K H' a xs := by
  rcases h with h | h
  · exact .inl (ex_rd e h)
  · exact .inr h

section
variable {G : Tb} {B B' : Hp}
mutual
theorem RD.mono (e : Ex B B') : ∀ (d : D) (v : V), RD G B d v → RD G B' d v
  | .non, _, h => h
  | .bl _, _, h => h
  | .int _, _, h => h
  | .str _, _, h => h
  | .tup ds, _, ⟨a, vs, h1, h2, h3⟩ => ⟨a, vs, h1, ex_t e h2, RDs.mono e ds vs h3⟩
  | .lst ds, _, ⟨a, vs, h1, h2, h3⟩ => ⟨a, vs, h1, e _ _ h2, RDs.mono e ds vs h3⟩
  | .scr ns, _, ⟨a, h1, h2⟩ => ⟨a, h1, ex_l e h2⟩
  | .rng _ _, _, ⟨a, h1, h2⟩ => ⟨a, h1, e _ _ h2⟩
  | .dct kvs, _, ⟨a, ws, h1, h2, h3⟩ => ⟨a, ws, h1, e _ _ h2, RDk.mono e kvs ws h3⟩
  | .obj C fs, _, ⟨a, dx, ws, h1, h2, h3⟩ => ⟨a, dx, ws, h1, e _ _ h2, RDf.mono e fs ws h3⟩
theorem RDs.mono (e : Ex B B') : ∀ (ds : List D) (vs : List V), RDs G B ds vs → RDs G B' ds vs
  | [], _, h => h
  | d :: ds, _, ⟨v, r, h1, h2, h3⟩ => ⟨v, r, h1, RD.mono e d v h2, RDs.mono e ds r h3⟩
theorem RDk.mono (e : Ex B B') : ∀ (ds : List (Key × D)) (vs : List (Key × V)), RDk G B ds vs → RDk G B' ds vs
  | [], _, h => h
  | (_, d) :: ds, _, ⟨v, r, h1, h2, h3⟩ => ⟨v, r, h1, RD.mono e d v h2, RDk.mono e ds r h3⟩
theorem RDf.mono (e : Ex B B') : ∀ (ds : List (Str × D)) (vs : List (Str × V)), RDf G B ds vs → RDf G B' ds vs
  | [], _, h => h
  | (_, d) :: ds, _, ⟨v, r, h1, h2, h3⟩ => ⟨v, r, h1, RD.mono e d v h2, RDf.mono e ds r h3⟩
end
theorem RDs.len : ∀ {ds : List D} {vs : List V}, RDs G B ds vs → vs.length = ds.length
  | [], _, h => by rw [show _ = [] from h]; rfl
  | d :: ds, _, ⟨v, r, h1, _, h3⟩ => by rw [h1, List.length_cons, List.length_cons, RDs.len h3]
theorem RDs.get : ∀ {ds : List D} {vs : List V} {i : Nat} {d : D}, RDs G B ds vs → ds[i]? = some d → ∃ v, vs[i]? = some v ∧ RD G B d v
  | [], _, _, _, _, e => by cases e
  | d :: ds, _, 0, _, ⟨v, r, h1, h2, _⟩, e => by
    cases e; exact ⟨v, by rw [h1]; rfl, h2⟩
  | d :: ds, _, i + 1, _, ⟨v, r, h1, _, h3⟩, e => by
    obtain ⟨u, q1, q2⟩ := RDs.get (i := i) h3 (by simpa using e)
    exact ⟨u, by rw [h1]; simpa using q1, q2⟩
theorem RDs.get' : ∀ {ds : List D} {vs : List V} {i : Nat} {v : V}, RDs G B ds vs → vs[i]? = some v → ∃ d, ds[i]? = some d ∧ RD G B d v
  | [], _, _, _, h, e => by rw [show _ = [] from h] at e; cases e
  | d :: ds, _, 0, _, ⟨v, r, h1, h2, _⟩, e => by
    rw [h1] at e; cases e; exact ⟨d, rfl, h2⟩
  | d :: ds, _, i + 1, _, ⟨v, r, h1, _, h3⟩, e => by
    rw [h1] at e
    obtain ⟨u, q1, q2⟩ := RDs.get' (i := i) h3 (by simpa using e)
    exact ⟨u, by simpa using q1, q2⟩
theorem RDs.nil : RDs G B [] [] := rfl
theorem RDs.cons {d : D} {ds : List D} {v : V} {vs : List V} (h : RD G B d v) (r : RDs G B ds vs) : RDs G B (d :: ds) (v :: vs) := ⟨v, vs, rfl, h, r⟩
theorem RDs.append : ∀ {ds es : List D} {vs us : List V}, RDs G B ds vs → RDs G B es us → RDs G B (ds ++ es) (vs ++ us)
  | [], _, _, _, h, r => by rw [show _ = [] from h]; exact r
  | d :: ds, _, _, _, ⟨v, q, h1, h2, h3⟩, r => ⟨v, _, by rw [h1]; rfl, h2, RDs.append h3 r⟩
theorem RDs.one {d : D} {v : V} (h : RD G B d v) : RDs G B [d] [v] := .cons h .nil
theorem RDs.take : ∀ (n : Nat) {ds : List D} {vs : List V}, RDs G B ds vs → RDs G B (ds.take n) (vs.take n)
  | 0, _, _, _ => by simp [RDs]
  | n + 1, [], _, h => by rw [show _ = [] from h]; exact rfl
  | n + 1, d :: ds, _, ⟨v, q, h1, h2, h3⟩ => ⟨v, _, by rw [h1]; rfl, h2, RDs.take n h3⟩
theorem RDs.drop : ∀ (n : Nat) {ds : List D} {vs : List V}, RDs G B ds vs → RDs G B (ds.drop n) (vs.drop n)
  | 0, _, _, h => h
  | n + 1, [], _, h => by rw [show _ = [] from h]; exact rfl
  | n + 1, d :: ds, _, ⟨v, q, h1, h2, h3⟩ => by rw [h1]; exact RDs.drop n h3
theorem RDs.set : ∀ (n : Nat) {ds : List D} {vs : List V} {d : D} {v : V}, RDs G B ds vs → RD G B d v → RDs G B (ds.set n d) (vs.set n v)
  | _, [], _, _, _, h, _ => by rw [show _ = [] from h]; exact rfl
  | 0, d :: ds, _, _, _, ⟨v, q, h1, _, h3⟩, r => ⟨_, _, by rw [h1]; rfl, r, h3⟩
  | n + 1, d :: ds, _, _, _, ⟨v, q, h1, h2, h3⟩, r => ⟨v, _, by rw [h1]; rfl, h2, RDs.set n h3 r⟩
theorem RDs.eraseIdx : ∀ (n : Nat) {ds : List D} {vs : List V}, RDs G B ds vs → RDs G B (ds.eraseIdx n) (vs.eraseIdx n)
  | _, [], _, h => by rw [show _ = [] from h]; exact rfl
  | 0, d :: ds, _, ⟨v, q, h1, _, h3⟩ => by rw [h1]; exact h3
  | n + 1, d :: ds, _, ⟨v, q, h1, h2, h3⟩ => ⟨v, _, by rw [h1]; rfl, h2, RDs.eraseIdx n h3⟩
theorem RDs.reverse : ∀ {ds : List D} {vs : List V}, RDs G B ds vs → RDs G B ds.reverse vs.reverse
  | [], _, h => by rw [show _ = [] from h]; exact rfl
  | d :: ds, _, ⟨v, q, h1, h2, h3⟩ => by
    rw [h1, List.reverse_cons, List.reverse_cons]
    exact (RDs.reverse h3).append (.one h2)
theorem RDs.dropLast {ds : List D} {vs : List V} (h : RDs G B ds vs) : RDs G B ds.dropLast vs.dropLast := by
  rw [List.dropLast_eq_take, List.dropLast_eq_take, h.len]; exact h.take _
theorem RDs.ints : ∀ {ns : List Int} {vs : List V}, RDs G B (ns.map D.int) vs → vs = ns.map V.int
  | [], _, h => h
  | n :: ns, _, ⟨v, q, h1, h2, h3⟩ => by rw [h1, show v = _ from h2, RDs.ints h3]; rfl
theorem RDs.of_ints : ∀ (ns : List Int), RDs G B (ns.map D.int) (ns.map V.int)
  | [] => rfl
  | n :: ns => ⟨_, _, rfl, rfl, RDs.of_ints ns⟩
theorem RDs.strs : ∀ {ns : List Str} {vs : List V}, RDs G B (ns.map D.str) vs → vs = ns.map V.str
  | [], _, h => h
  | n :: ns, _, ⟨v, q, h1, h2, h3⟩ => by rw [h1, show v = _ from h2, RDs.strs h3]; rfl
theorem RDs.of_strs : ∀ (ns : List Str), RDs G B (ns.map D.str) (ns.map V.str)
  | [] => rfl
  | n :: ns => ⟨_, _, rfl, rfl, RDs.of_strs ns⟩
theorem RDs.bls : ∀ {ns : List Bool} {vs : List V}, RDs G B (ns.map D.bl) vs → vs = ns.map V.bl
  | [], _, h => h
  | n :: ns, _, ⟨v, q, h1, h2, h3⟩ => by rw [h1, show v = _ from h2, RDs.bls h3]; rfl
end
end DL

namespace DL
open PySem L2
/-! ### the slots -/
inductive Slot where
  | un
  | sh (d : D)
  | own (d : D)
  deriving Inhabited
abbrev Sl := List Slot
structure Exn where
  c : Nat
  fs : List (Str × D)
  deriving Inhabited
inductive Res (α : Type) where
  | ok (a : α) (s : Sl)
  | exc (x : Exn) (s : Sl)
  | no
abbrev M (α : Type) := Sl → Res α
/-- one behind the other -/
def bnd {α β : Type} (m : M α) (k : α → M β) : M β := fun s => match m s with
  | .ok a s1 => k a s1
  | .exc x s1 => .exc x s1
  | .no => .no
def ret {α : Type} (a : α) : M α := fun s => .ok a s
def opt {α : Type} (a : Option α) : M α := fun s => match a with
  | some a => .ok a s
  | none => .no

/-- what stands at a, which the frame holds alone -/
def OwnAt (G : Tb) (B H : Hp) (a : Addr) : D → Prop
  | .lst ds => ∃ vs, H a = some (.lst vs) ∧ RDs G B ds vs
  | .dct kvs => ∃ ws, H a = some (.dK ws) ∧ RDk G B kvs ws
  | .obj C fs => ∃ dx ws, H a = some (.ins (G.ca C) dx ws) ∧ RDf G B fs ws
  | _ => False
def SlotOk (G : Tb) (B H : Hp) (o : Option (Option V)) : Slot → Prop
  | .un => True
  | .sh d => ∃ v, o = some (some v) ∧ RD G B d v
  | .own d => ∃ a, o = some (some (.ref a)) ∧ B a = none ∧ OwnAt G B H a d
def Owns (s : Sl) (σ : St) (i : Nat) (a : Addr) : Prop := (∃ d, s[i]? = some (.own d)) ∧ σ[i]? = some (some (.ref a))
def OwnS (s : Sl) (σ : St) (a : Addr) : Prop := ∃ i, Owns s σ i a
structure Rep (G : Tb) (s : Sl) (σ : St) (B H : Hp) : Prop where
  ex : Ex B H
  len : s.length = σ.length
  slot : ∀ (i : Nat) (sl : Slot), s[i]? = some sl → SlotOk G B H σ[i]? sl
  sep : ∀ i j a, Owns s σ i a → Owns s σ j a → i = j
/-- the same slots are own -/
def Pat (s s' : Sl) : Prop := s'.length = s.length ∧ ∀ i : Nat, (∃ d, s'[i]? = some (.own d)) ↔ (∃ d, s[i]? = some (.own d))
theorem Pat.refl (s : Sl) : Pat s s := ⟨rfl, fun _ => Iff.rfl⟩
theorem Pat.trans {a b c : Sl} (h : Pat a b) (k : Pat b c) : Pat a c := ⟨k.1.trans h.1, fun i => (k.2 i).trans (h.2 i)⟩
theorem Pat.owns {s s' : Sl} (h : Pat s s') {σ : St} {i : Nat} {a : Addr} : Owns s' σ i a ↔ Owns s σ i a := ⟨fun ⟨x, y⟩ => ⟨(h.2 i).1 x, y⟩, fun ⟨x, y⟩ => ⟨(h.2 i).2 x, y⟩⟩
theorem Pat.own {s s' : Sl} (h : Pat s s') {σ : St} {a : Addr} : OwnS s' σ a ↔ OwnS s σ a := ⟨fun ⟨i, x⟩ => ⟨i, h.owns.1 x⟩, fun ⟨i, x⟩ => ⟨i, h.owns.2 x⟩⟩
/-- how the heaps grow while an expression is worked out -/
structure Gr (s : Sl) (σ : St) (B H : Hp) (s' : Sl) (B' H' : Hp) : Prop where
  b : Ex B B'
  keep : ∀ a o, H a = some o → ¬ OwnS s σ a → H' a = some o
  new : ∀ a, B' a ≠ none → B a ≠ none ∨ H a = none
  dom : ∀ a, H a ≠ none → H' a ≠ none
  pat : Pat s s'
section
variable {G : Tb} {s s1 s2 : Sl} {σ : St} {B H B1 H1 B2 H2 : Hp}
theorem Gr.refl : Gr s σ B H s B H := ⟨.refl _, fun _ _ h _ => h, fun _ h => .inl h, fun _ h => h, .refl _⟩
theorem Gr.trans (a : Gr s σ B H s1 B1 H1) (b : Gr s1 σ B1 H1 s2 B2 H2) : Gr s σ B H s2 B2 H2 :=
  ⟨a.b.trans b.b, fun p o h n => b.keep p o (a.keep p o h n) fun z => n (a.pat.own.1 z), fun p h => by
    rcases b.new p h with z | z
    · exact a.new p z
    · by_cases q : H p = none
      · exact .inr q
      · exact absurd z (a.dom p q), fun p h => b.dom p (a.dom p h), a.pat.trans b.pat⟩
theorem Gr.back (a : Gr s σ B H s1 B1 H1) {p : Addr} (h : H1 p = none) : H p = none := by
  by_cases q : H p = none
  · exact q
  · exact absurd h (a.dom p q)
/-- a new object is laid into the base -/
theorem Gr.new' {p : Addr} {o : HO} (ex : Ex B H) (hp : H p = none) : Gr s σ B H s (upd B p o) (upd H p o) := by
  have hb := ex.back hp
  refine ⟨.new hb, fun a u e _ => by rw [upd_ne (ne_of_none e hp)]; exact e, fun a h => ?_, fun a h => ?_, .refl _⟩
  · by_cases q : a = p
    · exact .inr (q ▸ hp)
    · rw [upd_ne q] at h; exact .inl h
  · by_cases q : a = p
    · rw [q, upd_same]; intro z; cases z
    · rw [upd_ne q]; exact h
/-- .. or beside it -/
theorem Gr.newF {p : Addr} {o : HO} (hp : H p = none) : Gr s σ B H s B (upd H p o) := by
  refine ⟨.refl _, fun a u e _ => by rw [upd_ne (ne_of_none e hp)]; exact e, fun a h => .inl h, fun a h => ?_, .refl _⟩
  by_cases q : a = p
  · rw [q, upd_same]; intro z; cases z
  · rw [upd_ne q]; exact h
theorem ex_upd2 {p : Addr} {o : HO} (ex : Ex B H) (hp : H p = none) : Ex (upd B p o) (upd H p o) := fun a u e => by
  by_cases q : a = p
  · subst q; rw [upd_same] at e ⊢; exact e
  · rw [upd_ne q] at e ⊢; exact ex a u e
theorem OwnAt.mono {a : Addr} {d : D} (eb : Ex B B1) (eh : ∀ o, H a = some o → H1 a = some o) (h : OwnAt G B H a d) : OwnAt G B1 H1 a d := by
  cases d with
  | lst ds => obtain ⟨vs, h1, h2⟩ := h; exact ⟨vs, eh _ h1, h2.mono eb⟩
  | dct ds => obtain ⟨vs, h1, h2⟩ := h; exact ⟨vs, eh _ h1, h2.mono eb⟩
  | obj C ds => obtain ⟨dx, vs, h1, h2⟩ := h; exact ⟨dx, vs, eh _ h1, h2.mono eb⟩
  | _ => exact h
/-- the heaps grow, nothing own changes -/
theorem Rep.grow (r : Rep G s σ B H) (eb : Ex B B1) (eh : Ex H H1) (ex : Ex B1 H1) (nw : ∀ a, B1 a ≠ none → B a ≠ none ∨ H a = none) : Rep G s σ B1 H1 := by
  refine ⟨ex, r.len, fun i sl e => ?_, r.sep⟩
  have q := r.slot i sl e
  cases sl with
  | un => trivial
  | sh d => obtain ⟨v, h1, h2⟩ := q; exact ⟨v, h1, h2.mono eb⟩
  | own d =>
    obtain ⟨a, h1, h2, h3⟩ := q
    refine ⟨a, h1, ?_, h3.mono eb (eh a)⟩
    by_cases z : B1 a = none
    · exact z
    · rcases nw a z with y | y
      · exact absurd h2 y
      · exfalso
        cases d with
        | lst ds => obtain ⟨vs, q1, _⟩ := h3; rw [y] at q1; cases q1
        | dct ds => obtain ⟨vs, q1, _⟩ := h3; rw [y] at q1; cases q1
        | obj C ds => obtain ⟨dx, vs, q1, _⟩ := h3; rw [y] at q1; cases q1
        | _ => exact h3
theorem Rep.new' (r : Rep G s σ B H) {p : Addr} {o : HO} (hp : H p = none) : Rep G s σ (upd B p o) (upd H p o) :=
  r.grow (.new (r.ex.back hp)) (.new hp) (ex_upd2 r.ex hp) (Gr.new' (s := s) (σ := σ) r.ex hp).new
theorem Rep.newF (r : Rep G s σ B H) {p : Addr} {o : HO} (hp : H p = none) : Rep G s σ B (upd H p o) :=
  r.grow (.refl _) (.new hp) (r.ex.trans (.new hp)) fun _ h => .inl h
end
end DL

/-! ## DLb -/
namespace DL
open PySem L2

/-! ### what a reading is worth -/
def ExcAt (G : Tb) (B H : Hp) (x : Exn) (dd : Addr) : Prop := ∃ ws, H dd = some (.xd ws) ∧ RDf G B x.fs ws
abbrev TX (β : Type) := St → Hp → (β → Hp → Prop) → Prop
abbrev RL (α β : Type) := Hp → Hp → Hp → α → β → Prop
/-- at one state -/
def At (G : Tb) (W : WX) {α β : Type} (R : RL α β) (f : M α) (s : Sl) (σ : St) (B H : Hp) (t : (β → Hp → Prop) → Prop) : Prop :=
  ∀ Q : β → Hp → Prop,
    (∀ a s' b B' H', f s = .ok a s' → Gr s σ B H s' B' H' → Rep G s' σ B' H' → R H B' H' a b → Q b H') →
    (∀ x s' dd B' H', f s = .exc x s' → Gr s σ B H s' B' H' → Rep G s' σ B' H' → ExcAt G B' H' x dd → W (.ref (G.ca x.c)) (some dd) σ H') →
    f s ≠ .no → t Q
def Snd (G : Tb) (W : WX) {α β : Type} (R : RL α β) (t : TX β) (f : M α) : Prop := ∀ s σ B H, Rep G s σ B H → At G W R f s σ B H (t σ H)
/-- stands for the data; a list or dict of the frame's own is let -/
def RDo (G : Tb) (B H : Hp) : D → V → Prop
  | .lst ds, v => ∃ a vs, v = .ref a ∧ H a = some (.lst vs) ∧ RDs G B ds vs
  | .dct kvs, v => ∃ a ws, v = .ref a ∧ H a = some (.dK ws) ∧ RDk G B kvs ws
  | .obj C fs, v => ∃ a dx ws, v = .ref a ∧ H a = some (.ins (G.ca C) dx ws) ∧ RDf G B fs ws
  | d, v => RD G B d v
def RE (G : Tb) : RL D V := fun _ B' _ d v => RD G B' d v
def RT : RL Bool Bool := fun _ _ _ a b => a = b
def RA (G : Tb) : RL (List D) (List V) := fun _ B' _ ds vs => RDs G B' ds vs
def RF (G : Tb) : RL D V := fun H B' H' d v => ∃ p, v = .ref p ∧ H p = none ∧ B' p = none ∧ OwnAt G B' H' p d
def RR (G : Tb) : RL D V := fun _ B' H' d v => RDo G B' H' d v
class Back {α β : Type} (R : RL α β) : Prop where
  back : ∀ {H H1 B' H' : Hp} {a : α} {b : β}, (∀ p, H1 p = none → H p = none) → R H1 B' H' a b → R H B' H' a b
instance {G : Tb} : Back (RE G) := ⟨fun _ h => h⟩
instance : Back RT := ⟨fun _ h => h⟩
instance {G : Tb} : Back (RA G) := ⟨fun _ h => h⟩
instance {G : Tb} : Back (RR G) := ⟨fun _ h => h⟩
instance {G : Tb} : Back (RF G) := ⟨fun k ⟨p, h1, h2, h3⟩ => ⟨p, h1, k p h2, h3⟩⟩

section
variable {G : Tb} {W : WX} {s s1 : Sl} {σ : St} {B H B1 H1 : Hp}
theorem RD.toO (ex : Ex B H) : ∀ {d : D} {v : V}, RD G B d v → RDo G B H d v := fun {d v} h => by
  cases d with
  | lst ds => obtain ⟨a, vs, h1, h2, h3⟩ := h; exact ⟨a, vs, h1, ex _ _ h2, h3⟩
  | dct ds => obtain ⟨a, vs, h1, h2, h3⟩ := h; exact ⟨a, vs, h1, ex _ _ h2, h3⟩
  | obj C ds => obtain ⟨a, dx, vs, h1, h2, h3⟩ := h; exact ⟨a, dx, vs, h1, ex _ _ h2, h3⟩
  | _ => exact h
theorem OwnAt.toO {p : Addr} : ∀ {d : D}, OwnAt G B H p d → RDo G B H d (.ref p) := fun {d} h => by
  cases d with
  | lst ds => obtain ⟨vs, h2, h3⟩ := h; exact ⟨p, vs, rfl, h2, h3⟩
  | dct ds => obtain ⟨vs, h2, h3⟩ := h; exact ⟨p, vs, rfl, h2, h3⟩
  | obj C ds => obtain ⟨dx, vs, h2, h3⟩ := h; exact ⟨p, dx, vs, rfl, h2, h3⟩
  | _ => exact h.elim
/-- an own thing is laid into the base -/
theorem OwnAt.freeze {p : Addr} {d : D} (hb : B p = none) (h : OwnAt G B H p d) : ∃ o, H p = some o ∧ RD G (upd B p o) d (.ref p) := by
  cases d with
  | lst ds => obtain ⟨vs, h2, h3⟩ := h; exact ⟨_, h2, p, vs, rfl, upd_same, h3.mono (.new hb)⟩
  | dct ds => obtain ⟨vs, h2, h3⟩ := h; exact ⟨_, h2, p, vs, rfl, upd_same, h3.mono (.new hb)⟩
  | obj C ds => obtain ⟨dx, vs, h2, h3⟩ := h; exact ⟨_, h2, p, dx, vs, rfl, upd_same, h3.mono (.new hb)⟩
  | _ => exact h.elim
theorem At.val {α β : Type} {R : RL α β} {f : M α} {a : α} {b : β} (rep : Rep G s σ B H) (h : f s = .ok a s) (r : R H B H a b) : At G W R f s σ B H (fun Q => Q b H) :=
  fun Q ok _ _ => ok a s b B H h .refl rep r
theorem At.seq {α1 α2 β1 β2 : Type} {R1 : RL α1 β1} {R2 : RL α2 β2} [Back R2] {f1 : M α1} {k : α1 → M α2} {t1 : (β1 → Hp → Prop) → Prop} {t2 : β1 → Hp → (β2 → Hp → Prop) → Prop}
    (h1 : At G W R1 f1 s σ B H t1)
    (h2 : ∀ a s1 b B1 H1, f1 s = .ok a s1 → Gr s σ B H s1 B1 H1 → Rep G s1 σ B1 H1 → R1 H B1 H1 a b → At G W R2 (k a) s1 σ B1 H1 (t2 b H1)) :
    At G W R2 (bnd f1 k) s σ B H (fun Q => t1 fun b H1 => t2 b H1 Q) := by
  intro Q ok exc no
  refine h1 _ (fun a s1 b B1 H1 e1 g1 r1 q1 => ?_) (fun x s1 dd B1 H1 e1 g1 r1 q1 => exc x s1 dd B1 H1 (by simp only [bnd, e1]) g1 r1 q1) fun e => no (by simp only [bnd, e])
  have eb : bnd f1 k s = k a s1 := by simp only [bnd, e1]
  exact h2 a s1 b B1 H1 e1 g1 r1 q1 Q (fun a' s' b' B' H' e g r q => ok a' s' b' B' H' (eb.trans e) (g1.trans g) r (Back.back (fun p => g1.back) q))
    (fun x s' dd B' H' e g r q => exc x s' dd B' H' (eb.trans e) (g1.trans g) r q) fun e => no (eb.trans e)
/-- the heap grows by new objects alone -/
structure GrN (B H B' H' : Hp) : Prop where
  b : Ex B B'
  h : Ex H H'
  ex : Ex B' H'
  nw : ∀ a, B' a ≠ none → B a ≠ none ∨ H a = none
theorem GrN.refl (ex : Ex B H) : GrN B H B H := ⟨.refl _, .refl _, ex, fun _ h => .inl h⟩
theorem GrN.new {p : Addr} {o : HO} (ex : Ex B H) (hp : H p = none) : GrN B H (upd B p o) (upd H p o) :=
  ⟨.new (ex.back hp), .new hp, ex_upd2 ex hp, (Gr.new' (s := []) (σ := []) ex hp).new⟩
theorem GrN.newF {p : Addr} {o : HO} (ex : Ex B H) (hp : H p = none) : GrN B H B (upd H p o) := ⟨.refl _, .new hp, ex.trans (.new hp), fun _ h => .inl h⟩
theorem GrN.trans {B2 H2 : Hp} (a : GrN B H B1 H1) (b : GrN B1 H1 B2 H2) : GrN B H B2 H2 := ⟨a.b.trans b.b, a.h.trans b.h, b.ex, fun p h => by
  rcases b.nw p h with z | z
  · exact a.nw p z
  · exact .inr (a.h.back z)⟩
theorem GrN.gr (g : GrN B H B1 H1) : Gr s σ B H s B1 H1 := ⟨g.b, fun a o h _ => g.h a o h, g.nw, fun a h z => h (g.h.back z), .refl _⟩
theorem GrN.rep (g : GrN B H B1 H1) (r : Rep G s σ B H) : Rep G s σ B1 H1 := r.grow g.b g.h g.ex g.nw
theorem At.grN {α β : Type} {R : RL α β} {f : M α} {t : (β → Hp → Prop) → Prop} (rep : Rep G s σ B H)
    (h : ∀ Q : β → Hp → Prop, (∀ a b B' H', f s = .ok a s → GrN B H B' H' → R H B' H' a b → Q b H') → f s ≠ .no → t Q) : At G W R f s σ B H t := fun Q ok _ no =>
  h Q (fun a b B' H' e g r => ok a s b B' H' e g.gr (g.rep rep) r) no
end

/-! ### the denotations -/
def eC (d : D) : M D := ret d
def eVar (i : Nat) : M D := fun s => match s[i]? with
  | some (.sh d) => .ok d s
  | _ => .no
/-- a thing of the frame's own, read where it stands -/
def eOwn (i : Nat) : M D := fun s => match s[i]? with
  | some (.own d) => .ok d s
  | _ => .no
def eBin (g : D → D → Option D) (fa fb : M D) : M D := bnd fa fun x => bnd fb fun y => opt (g x y)
def eBinO (g : D → D → Option D) (i : Nat) (fb : M D) : M D := bnd (eOwn i) fun _ => bnd fb fun y => bnd (eOwn i) fun x => opt (g x y)
def eUn (g : D → Option D) (fa : M D) : M D := bnd fa fun x => opt (g x)
def tstB (g : D → Option Bool) (fa : M D) : M Bool := bnd fa fun x => opt (g x)
def bAnd (a b : M Bool) : M Bool := bnd a fun c => if c = true then b else ret false
def bOr (a b : M Bool) : M Bool := bnd a fun c => if c = true then ret true else b
def bNot (a : M Bool) : M Bool := bnd a fun c => ret (!c)
def eIf {α : Type} (c : M Bool) (a b : M α) : M α := bnd c fun k => if k = true then a else b
def aNil : M (List D) := ret []
def aCons (a : M D) (r : M (List D)) : M (List D) := bnd a fun x => bnd r fun xs => ret (x :: xs)
def eArgs (g : List D → Option D) (a : M (List D)) : M D := bnd a fun xs => opt (g xs)

def asBl : D → Option Bool
  | .bl b => some b
  | _ => none
def truD : D → Option Bool
  | .non => some false
  | .bl b => some b
  | .int i => some (i != 0)
  | .str y => if y.length ≤ sizeLine then some ((y.length : Int) != 0) else none
  | .lst xs => some (!xs.isEmpty)
  | .tup xs => some (!xs.isEmpty)
  | .dct xs => some (!xs.isEmpty)
  | _ => none

section
variable {G : Tb} {W : WX}
theorem snd_C {d : D} {v : V} (h : ∀ B, RD G B d v) : Snd G W (RE G) (tC v) (eC d) := fun s σ B H rep => At.val rep rfl (h B)
theorem snd_var {i : Nat} : Snd G W (RE G) (tVar i) (eVar i) := fun s σ B H rep => by
  intro Q ok exc no
  cases e : s[i]? with
  | none => exact absurd (by simp only [eVar, e]) no
  | some sl =>
    cases sl with
    | un => exact absurd (by simp only [eVar, e]) no
    | own d => exact absurd (by simp only [eVar, e]) no
    | sh d =>
      obtain ⟨v, h1, h2⟩ := rep.slot i _ e
      exact ⟨v, h1, ok d s v B H (by simp only [eVar, e]) .refl rep h2⟩
theorem snd_own {i : Nat} : Snd G W (RR G) (tVar i) (eOwn i) := fun s σ B H rep => by
  intro Q ok exc no
  cases e : s[i]? with
  | none => exact absurd (by simp only [eOwn, e]) no
  | some sl =>
    cases sl with
    | un => exact absurd (by simp only [eOwn, e]) no
    | sh d => exact absurd (by simp only [eOwn, e]) no
    | own d =>
      obtain ⟨a, h1, h2, h3⟩ := rep.slot i _ e
      exact ⟨_, h1, ok d s _ B H (by simp only [eOwn, e]) .refl rep h3.toO⟩
/-- data of the base is read -/
theorem Snd.rd {t : TE} {f : M D} (h : Snd G W (RE G) t f) : Snd G W (RR G) t f := fun s σ B H rep Q ok exc no =>
  h s σ B H rep Q (fun a s' b B' H' e g r q => ok a s' b B' H' e g r (RD.toO r.ex q)) exc no
/-- a new own thing goes into the base -/
theorem Snd.frz {t : TE} {f : M D} (h : Snd G W (RF G) t f) : Snd G W (RE G) t f := fun s σ B H rep Q ok exc no =>
  h s σ B H rep Q (fun d s' b B' H' e g r ⟨p, e1, hp, hb, hO⟩ => by
    subst e1
    obtain ⟨o, ho, hr⟩ := hO.freeze hb
    have ex : Ex (upd B' p o) H' := fun a u z => by
      by_cases q : a = p
      · subst q; rw [upd_same] at z; rw [ho]; exact z
      · rw [upd_ne q] at z; exact r.ex a u z
    have nown : ¬ OwnS s' σ p := fun ⟨i, z⟩ => by
      obtain ⟨⟨d', e1⟩, e2⟩ := (g.pat.owns).1 z
      obtain ⟨a, q1, q2, q3⟩ := rep.slot i _ e1
      rw [e2] at q1; cases q1
      cases d' with
      | lst ds => obtain ⟨vs, w, _⟩ := q3; rw [hp] at w; cases w
      | dct ds => obtain ⟨vs, w, _⟩ := q3; rw [hp] at w; cases w
      | obj C ds => obtain ⟨dx, vs, w, _⟩ := q3; rw [hp] at w; cases w
      | _ => exact q3
    refine ok d s' _ (upd B' p o) H' e ⟨g.b.trans (.new hb), g.keep, fun a z => ?_, g.dom, g.pat⟩ ?_ hr
    · by_cases q : a = p
      · exact .inr (q ▸ hp)
      · rw [upd_ne q] at z; exact g.new a z
    · refine ⟨ex, r.len, fun i sl z => ?_, r.sep⟩
      have w := r.slot i sl z
      cases sl with
      | un => trivial
      | sh d => obtain ⟨v, h1, h2⟩ := w; exact ⟨v, h1, h2.mono (.new hb)⟩
      | own d =>
        obtain ⟨a, h1, h2, h3⟩ := w
        refine ⟨a, h1, ?_, h3.mono (.new hb) fun _ z => z⟩
        by_cases q : a = p
        · subst q; exact absurd ⟨i, ⟨d, z⟩, h1⟩ nown
        · rw [upd_ne q]; exact h2) exc no
/-- .. or may be read at once -/
theorem Snd.frr {t : TE} {f : M D} (h : Snd G W (RF G) t f) : Snd G W (RR G) t f := fun s σ B H rep Q ok exc no =>
  h s σ B H rep Q (fun d s' b B' H' e g r ⟨p, e1, hp, hb, hO⟩ => by subst e1; exact ok d s' _ B' H' e g r hO.toO) exc no

/-- an operation on two values -/
def OpE (G : Tb) (r : R2) (g : D → D → Option D) : Prop := ∀ B H x y v u d, Ex B H → RDo G B H x v → RDo G B H y u → g x y = some d → ∀ Q : VK, (∀ w B' H', GrN B H B' H' → RD G B' d w → Q w H') → r v u H Q
/-- .. that makes a new list -/
def OpF (G : Tb) (r : R2) (g : D → D → Option D) : Prop := ∀ B H x y v u d, Ex B H → RDo G B H x v → RDo G B H y u → g x y = some d → ∀ Q : VK, (∀ p B' H', GrN B H B' H' → H p = none → B' p = none → OwnAt G B' H' p d → Q (.ref p) H') → r v u H Q
def UnE (G : Tb) (r : V → Hp → VK → Prop) (g : D → Option D) : Prop := ∀ B H x v d, Ex B H → RDo G B H x v → g x = some d → ∀ Q : VK, (∀ w B' H', GrN B H B' H' → RD G B' d w → Q w H') → r v H Q
def UnF (G : Tb) (r : V → Hp → VK → Prop) (g : D → Option D) : Prop := ∀ B H x v d, Ex B H → RDo G B H x v → g x = some d → ∀ Q : VK, (∀ p B' H', GrN B H B' H' → H p = none → B' p = none → OwnAt G B' H' p d → Q (.ref p) H') → r v H Q
theorem at_opE {x y : D} {r : R2} {g : D → D → Option D} {s : Sl} {σ : St} {B H : Hp} {v u : V} (ho : OpE G r g) (rep : Rep G s σ B H) (rx : RDo G B H x v) (ry : RDo G B H y u) : At G W (RE G) (opt (g x y)) s σ B H (r v u H) :=
  At.grN rep fun Q ok no => by
    cases e : g x y with
    | none => exact absurd (by simp only [opt, e]) no
    | some d => exact ho B H x y v u d rep.ex rx ry e Q fun w B' H' gr q => ok d w B' H' (by simp only [opt, e]) gr q
theorem at_opF {x y : D} {r : R2} {g : D → D → Option D} {s : Sl} {σ : St} {B H : Hp} {v u : V} (ho : OpF G r g) (rep : Rep G s σ B H) (rx : RDo G B H x v) (ry : RDo G B H y u) : At G W (RF G) (opt (g x y)) s σ B H (r v u H) :=
  At.grN rep fun Q ok no => by
    cases e : g x y with
    | none => exact absurd (by simp only [opt, e]) no
    | some d => exact ho B H x y v u d rep.ex rx ry e Q fun p B' H' gr h1 h2 h3 => ok d _ B' H' (by simp only [opt, e]) gr ⟨p, rfl, h1, h2, h3⟩
theorem at_unE {x : D} {r : V → Hp → VK → Prop} {g : D → Option D} {s : Sl} {σ : St} {B H : Hp} {v : V} (ho : UnE G r g) (rep : Rep G s σ B H) (rx : RDo G B H x v) : At G W (RE G) (opt (g x)) s σ B H (r v H) :=
  At.grN rep fun Q ok no => by
    cases e : g x with
    | none => exact absurd (by simp only [opt, e]) no
    | some d => exact ho B H x v d rep.ex rx e Q fun w B' H' gr q => ok d w B' H' (by simp only [opt, e]) gr q
theorem at_unF {x : D} {r : V → Hp → VK → Prop} {g : D → Option D} {s : Sl} {σ : St} {B H : Hp} {v : V} (ho : UnF G r g) (rep : Rep G s σ B H) (rx : RDo G B H x v) : At G W (RF G) (opt (g x)) s σ B H (r v H) :=
  At.grN rep fun Q ok no => by
    cases e : g x with
    | none => exact absurd (by simp only [opt, e]) no
    | some d => exact ho B H x v d rep.ex rx e Q fun p B' H' gr h1 h2 h3 => ok d _ B' H' (by simp only [opt, e]) gr ⟨p, rfl, h1, h2, h3⟩
variable {r : R2} {ru : V → Hp → VK → Prop} {g : D → D → Option D} {gu : D → Option D} {ta tb : TE} {fa fb : M D}
theorem snd_op (ho : OpE G r g) (ha : Snd G W (RE G) ta fa) (hb : Snd G W (RR G) tb fb) : Snd G W (RE G) (tOp r ta tb) (eBin g fa fb) := fun s σ B H rep =>
  At.seq (R2 := RE G) (t2 := fun x H1 Q => tb σ H1 fun y H2 => r x y H2 Q) (ha s σ B H rep) fun x s1 v B1 H1 e1 g1 r1 (q1 : RD G B1 x v) =>
    At.seq (R2 := RE G) (t2 := fun y H2 Q => r v y H2 Q) (hb s1 σ B1 H1 r1) fun y s2 u B2 H2 e2 g2 r2 q2 => at_opE ho r2 (RD.toO r2.ex (q1.mono g2.b)) q2
theorem snd_opF (ho : OpF G r g) (ha : Snd G W (RE G) ta fa) (hb : Snd G W (RR G) tb fb) : Snd G W (RF G) (tOp r ta tb) (eBin g fa fb) := fun s σ B H rep =>
  At.seq (R2 := RF G) (t2 := fun x H1 Q => tb σ H1 fun y H2 => r x y H2 Q) (ha s σ B H rep) fun x s1 v B1 H1 e1 g1 r1 (q1 : RD G B1 x v) =>
    At.seq (R2 := RF G) (t2 := fun y H2 Q => r v y H2 Q) (hb s1 σ B1 H1 r1) fun y s2 u B2 H2 e2 g2 r2 q2 => at_opF ho r2 (RD.toO r2.ex (q1.mono g2.b)) q2
/-- the first one a thing of the frame's own -/
theorem at_own {i : Nat} {α β : Type} {R : RL α β} {s : Sl} {σ : St} {B H : Hp} (rep : Rep G s σ B H) {tb : TE} {fb : M D} {k : D → D → M α} {r : V → V → Hp → (β → Hp → Prop) → Prop} [Back R] (hb : Snd G W (RR G) tb fb)
    (hk : ∀ (x y : D) s2 a u B2 H2, Rep G s2 σ B2 H2 → s2[i]? = some (.own x) → σ[i]? = some (some (.ref a)) → B2 a = none → OwnAt G B2 H2 a x → RDo G B2 H2 y u → At G W R (k x y) s2 σ B2 H2 (r (.ref a) u H2)) :
    At G W R (bnd (eOwn i) fun _ => bnd fb fun y => bnd (eOwn i) fun x => k x y) s σ B H (fun Q => tVar i σ H fun x H1 => tb σ H1 fun y H2 => r x y H2 Q) := by
  intro Q ok exc no
  cases e : s[i]? with
  | none => exact absurd (by simp only [bnd, eOwn, e]) no
  | some sl =>
    cases sl with
    | un => exact absurd (by simp only [bnd, eOwn, e]) no
    | sh d => exact absurd (by simp only [bnd, eOwn, e]) no
    | own x0 =>
      obtain ⟨a, hv, _⟩ := rep.slot i _ e
      have e0 : bnd (eOwn i) (fun _ => bnd fb fun y => bnd (eOwn i) fun x => k x y) s = (bnd fb fun y => bnd (eOwn i) fun x => k x y) s := by simp only [bnd, eOwn, e]
      refine ⟨_, hv, ?_⟩
      refine At.seq (R2 := R) (G := G) (W := W) (t2 := fun y H2 => r (.ref a) y H2) (hb s σ B H rep) (fun y s2 u B2 H2 e2 g2 r2 q2 => ?_) Q (fun a s' b B' H' z => ok a s' b B' H' (e0.trans z)) (fun x s' dd B' H' z => exc x s' dd B' H' (e0.trans z)) fun z => no (e0.trans z)
      intro Q ok exc no
      cases e : s2[i]? with
      | none => exact absurd (by simp only [bnd, eOwn, e]) no
      | some sl =>
        cases sl with
        | un => exact absurd (by simp only [bnd, eOwn, e]) no
        | sh d => exact absurd (by simp only [bnd, eOwn, e]) no
        | own x =>
          obtain ⟨a', h1, h2, h3⟩ := r2.slot i _ e
          rw [hv] at h1
          cases h1
          have eb : bnd (eOwn i) (fun x => k x y) s2 = k x y s2 := by simp only [bnd, eOwn, e]
          exact hk x y s2 a u B2 H2 r2 e hv h2 h3 q2 Q (fun a s' b B' H' z => ok a s' b B' H' (eb.trans z)) (fun x s' dd B' H' z => exc x s' dd B' H' (eb.trans z)) fun z => no (eb.trans z)
theorem snd_opO {i : Nat} (ho : OpE G r g) (hb : Snd G W (RR G) tb fb) : Snd G W (RE G) (tOp r (tVar i) tb) (eBinO g i fb) := fun s σ B H rep =>
  at_own (R := RE G) (r := fun x y H Q => r x y H Q) rep hb fun x y s2 a u B2 H2 r2 _ _ _ h3 q => at_opE ho r2 h3.toO q
theorem snd_opOF {i : Nat} (ho : OpF G r g) (hb : Snd G W (RR G) tb fb) : Snd G W (RF G) (tOp r (tVar i) tb) (eBinO g i fb) := fun s σ B H rep =>
  at_own (R := RF G) (r := fun x y H Q => r x y H Q) rep hb fun x y s2 a u B2 H2 r2 _ _ _ h3 q => at_opF ho r2 h3.toO q
theorem snd_un (ho : UnE G ru gu) (ha : Snd G W (RR G) ta fa) : Snd G W (RE G) (tUn ru ta) (eUn gu fa) := fun s σ B H rep =>
  At.seq (R2 := RE G) (t2 := fun x H1 Q => ru x H1 Q) (ha s σ B H rep) fun x s1 v B1 H1 e1 g1 r1 q1 => at_unE ho r1 q1
theorem snd_unF (ho : UnF G ru gu) (ha : Snd G W (RR G) ta fa) : Snd G W (RF G) (tUn ru ta) (eUn gu fa) := fun s σ B H rep =>
  At.seq (R2 := RF G) (t2 := fun x H1 Q => ru x H1 Q) (ha s σ B H rep) fun x s1 v B1 H1 e1 g1 r1 q1 => at_unF ho r1 q1

/-! ### tests -/
theorem at_opt {α β : Type} {R : RL α β} {o : Option α} {s : Sl} {σ : St} {B H : Hp} {t : (β → Hp → Prop) → Prop} (rep : Rep G s σ B H) (h : ∀ a, o = some a → ∀ Q : β → Hp → Prop, (∀ b B' H', GrN B H B' H' → R H B' H' a b → Q b H') → t Q) : At G W R (opt o) s σ B H t :=
  At.grN rep fun Q ok no => by
    cases e : o with
    | none => exact absurd (by simp only [opt, e]) no
    | some d => exact h d e Q fun b B' H' gr q => ok d b B' H' (by simp only [opt, e]) gr q
theorem bl_of {d : D} {v : V} {b : Bool} {B H : Hp} (h : RDo G B H d v) (e : asBl d = some b) : v = .bl b := by
  cases d <;> simp only [asBl] at e <;> first | cases e | skip
  all_goals exact h
theorem snd_test (ha : Snd G W (RE G) ta fa) : Snd G W RT (tTest ta) (tstB asBl fa) := fun s σ B H rep =>
  At.seq (R2 := RT) (t2 := fun (x : V) H1 Q => ∃ k, x = V.bl k ∧ Q k H1) (ha s σ B H rep) fun x s1 v B1 H1 e1 g1 r1 q1 =>
    at_opt r1 fun b e Q ok => ⟨b, bl_of (RD.toO r1.ex q1) e, ok b B1 H1 (.refl r1.ex) rfl⟩
theorem snd_B (ha : Snd G W (RE G) ta fa) : Snd G W RT (tB ta) (tstB asBl fa) := snd_test ha
theorem tru_of {d : D} {v : V} {b : Bool} {B H : Hp} (ex : Ex B H) (h : RDo G B H d v) (e : truD d = some b) : TruV G.K v H b := by
  cases d with
  | non => cases e; rw [show v = _ from h]; exact rfl
  | bl c => cases e; rw [show v = _ from h]; exact rfl
  | int c => cases e; rw [show v = _ from h]; exact rfl
  | str c =>
    simp only [truD] at e
    split at e
    · rename_i hz; cases e; rw [show v = _ from h]; exact ⟨hz, rfl⟩
    · cases e
  | lst ds => obtain ⟨a, vs, rfl, h2, h3⟩ := h; cases e; exact .inl ⟨vs, .of h2, by cases ds <;> cases vs <;> simp_all [RDs]⟩
  | tup ds => obtain ⟨a, vs, rfl, h2, h3⟩ := h; cases e; exact .inr (.inl ⟨vs, ex_t ex h2, by cases ds <;> cases vs <;> simp_all [RDs]⟩)
  | dct ds =>
    obtain ⟨a, vs, rfl, h2, h3⟩ := h; cases e
    refine .inr (.inr ⟨vs, h2, ?_⟩)
    cases ds with
    | nil => rw [show vs = _ from h3]; rfl
    | cons p r => obtain ⟨k, d⟩ := p; obtain ⟨v, r', e1, _⟩ := h3; rw [e1]; rfl
  | scr _ => cases e
  | rng _ _ => cases e
  | obj _ _ => cases e
theorem snd_tru (ha : Snd G W (RR G) ta fa) : Snd G W RT (fun σ H Q => ta σ H fun x H' => ∃ k, TruV G.K x H' k ∧ Q k H') (tstB truD fa) := fun s σ B H rep =>
  At.seq (R2 := RT) (t2 := fun x H1 Q => ∃ k, TruV G.K x H1 k ∧ Q k H1) (ha s σ B H rep) fun x s1 v B1 H1 e1 g1 r1 q1 =>
    at_opt r1 fun b e Q ok => ⟨b, tru_of r1.ex q1 e, ok b B1 H1 (.refl r1.ex) rfl⟩
variable {tt tu : TT} {ct cu : M Bool}
theorem snd_and (ha : Snd G W RT tt ct) (hb : Snd G W RT tu cu) : Snd G W RT (tAnd tt tu) (bAnd ct cu) := fun s σ B H rep =>
  At.seq (R2 := RT) (t2 := fun c H1 Q => if c = true then tu σ H1 Q else Q false H1) (ha s σ B H rep) fun x s1 v B1 H1 e1 g1 r1 (q1 : x = v) => by
    subst q1
    cases x with
    | true => exact hb s1 σ B1 H1 r1
    | false => exact At.val r1 rfl rfl
theorem snd_or (ha : Snd G W RT tt ct) (hb : Snd G W RT tu cu) : Snd G W RT (tOr tt tu) (bOr ct cu) := fun s σ B H rep =>
  At.seq (R2 := RT) (t2 := fun c H1 Q => if c = true then Q true H1 else tu σ H1 Q) (ha s σ B H rep) fun x s1 v B1 H1 e1 g1 r1 (q1 : x = v) => by
    subst q1
    cases x with
    | false => exact hb s1 σ B1 H1 r1
    | true => exact At.val r1 rfl rfl
theorem snd_not (ha : Snd G W RT tt ct) : Snd G W RT (tNot tt) (bNot ct) := fun s σ B H rep =>
  At.seq (R2 := RT) (t2 := fun c H1 Q => Q (!c) H1) (ha s σ B H rep) fun x s1 v B1 H1 e1 g1 r1 (q1 : x = v) => by
    subst q1
    exact At.val r1 rfl rfl
theorem snd_if {β : Type} {α : Type} {R : RL α β} [Back R] {ta tb : TX β} {fa fb : M α} (hc : Snd G W RT tt ct) (ha : Snd G W R ta fa) (hb : Snd G W R tb fb) : Snd G W R (fun σ H Q => tt σ H fun c H1 => if c = true then ta σ H1 Q else tb σ H1 Q) (eIf ct fa fb) := fun s σ B H rep =>
  At.seq (R2 := R) (t2 := fun c H1 Q => if c = true then ta σ H1 Q else tb σ H1 Q) (hc s σ B H rep) fun x s1 v B1 H1 e1 g1 r1 (q1 : x = v) => by
    subst q1
    cases x with
    | true => exact ha s1 σ B1 H1 r1
    | false => exact hb s1 σ B1 H1 r1
/-- and, or, not of bools as values -/
def no {α : Type} : M α := fun _ => .no
def andK (b : M D) : D → M D
  | .bl true => b
  | .bl false => ret (.bl false)
  | _ => no
def orK (b : M D) : D → M D
  | .bl false => b
  | .bl true => ret (.bl true)
  | _ => no
def eAndV (a b : M D) : M D := bnd a (andK b)
def eOrV (a b : M D) : M D := bnd a (orK b)
def notD : D → Option D
  | .bl b => some (.bl (!b))
  | _ => none
theorem at_no {α β : Type} {R : RL α β} {s : Sl} {σ : St} {B H : Hp} {t : (β → Hp → Prop) → Prop} : At G W R no s σ B H t := fun _ _ _ no => absurd rfl no
theorem snd_andV (ha : Snd G W (RE G) ta fa) (hb : Snd G W (RE G) tb fb) : Snd G W (RE G) (tAndV ta tb) (eAndV fa fb) := fun s σ B H rep =>
  At.seq (R2 := RE G) (t2 := fun (x : V) H1 Q => ∃ c, x = V.bl c ∧ if c = true then tb σ H1 Q else Q (.bl false) H1) (ha s σ B H rep) fun x s1 v B1 H1 e1 g1 r1 (q1 : RD G B1 x v) => by
    cases x with
    | bl c =>
      cases (show v = _ from q1)
      cases c with
      | true => exact fun Q ok exc no => ⟨true, rfl, hb s1 σ B1 H1 r1 Q ok exc no⟩
      | false => exact fun Q ok exc no => ⟨false, rfl, ok _ _ _ _ _ rfl .refl r1 rfl⟩
    | _ => exact at_no
theorem snd_orV (ha : Snd G W (RE G) ta fa) (hb : Snd G W (RE G) tb fb) : Snd G W (RE G) (tOrV ta tb) (eOrV fa fb) := fun s σ B H rep =>
  At.seq (R2 := RE G) (t2 := fun (x : V) H1 Q => ∃ c, x = V.bl c ∧ if c = true then Q (.bl true) H1 else tb σ H1 Q) (ha s σ B H rep) fun x s1 v B1 H1 e1 g1 r1 (q1 : RD G B1 x v) => by
    cases x with
    | bl c =>
      cases (show v = _ from q1)
      cases c with
      | false => exact fun Q ok exc no => ⟨false, rfl, hb s1 σ B1 H1 r1 Q ok exc no⟩
      | true => exact fun Q ok exc no => ⟨true, rfl, ok _ _ _ _ _ rfl .refl r1 rfl⟩
    | _ => exact at_no
theorem snd_notV (ha : Snd G W (RE G) ta fa) : Snd G W (RE G) (tNotV ta) (eUn notD fa) := fun s σ B H rep =>
  At.seq (R2 := RE G) (t2 := fun (x : V) H1 Q => ∃ c, x = V.bl c ∧ Q (.bl (!c)) H1) (ha s σ B H rep) fun x s1 v B1 H1 e1 g1 r1 (q1 : RD G B1 x v) => by
    cases x with
    | bl c =>
      cases (show v = _ from q1)
      exact fun Q ok exc no => ⟨c, rfl, ok _ _ _ _ _ rfl .refl r1 rfl⟩
    | _ => exact fun _ _ _ no => absurd rfl no
/-! ### arguments -/
variable {tr : TA} {fr : M (List D)}
theorem snd_nil : Snd G W (RA G) tNil aNil := fun s σ B H rep => At.val rep rfl (b := []) rfl
theorem snd_cons (ha : Snd G W (RE G) ta fa) (hr : Snd G W (RA G) tr fr) : Snd G W (RA G) (tCons ta tr) (aCons fa fr) := fun s σ B H rep =>
  At.seq (R2 := RA G) (t2 := fun x H1 Q => tr σ H1 fun xs H2 => Q (x :: xs) H2) (ha s σ B H rep) fun x s1 v B1 H1 e1 g1 r1 (q1 : RD G B1 x v) =>
    At.seq (R2 := RA G) (t2 := fun xs H2 Q => Q (v :: xs) H2) (hr s1 σ B1 H1 r1) fun xs s2 vs B2 H2 e2 g2 r2 q2 => At.val r2 rfl (RDs.cons (q1.mono g2.b) q2)
/-- one argument, read -/
theorem at_cons1 {s : Sl} {σ : St} {B H : Hp} {α β : Type} {R : RL α β} [Back R] {r : List V → Hp → (β → Hp → Prop) → Prop} {k : D → M α} (rep : Rep G s σ B H) (ha : Snd G W (RR G) ta fa) (hk : ∀ x s1 v B1 H1, Rep G s1 σ B1 H1 → RDo G B1 H1 x v → At G W R (k x) s1 σ B1 H1 (r [v] H1)) :
    At G W R (bnd fa k) s σ B H (fun Q => tCons ta tNil σ H fun xs H1 => r xs H1 Q) :=
  At.seq (R2 := R) (t2 := fun x H1 Q => r [x] H1 Q) (ha s σ B H rep) fun x s1 v B1 H1 e1 g1 r1 q1 => hk x s1 v B1 H1 r1 q1
def Un1 (r : List V → Hp → VK → Prop) : V → Hp → VK → Prop := fun v => r [v]
def Un2 (r : List V → Hp → VK → Prop) : R2 := fun v u => r [v, u]
/-- a built-in of one argument, of two -/
theorem snd_cb1 {rc : List V → Hp → VK → Prop} (ho : UnE G (Un1 rc) gu) (ha : Snd G W (RR G) ta fa) : Snd G W (RE G) (tCB rc (tCons ta tNil)) (eUn gu fa) := fun s σ B H rep =>
  at_cons1 (R := RE G) rep ha fun x s1 v B1 H1 r1 q1 => at_unE ho r1 q1
theorem snd_cb1F {rc : List V → Hp → VK → Prop} (ho : UnF G (Un1 rc) gu) (ha : Snd G W (RR G) ta fa) : Snd G W (RF G) (tCB rc (tCons ta tNil)) (eUn gu fa) := fun s σ B H rep =>
  at_cons1 (R := RF G) rep ha fun x s1 v B1 H1 r1 q1 => at_unF ho r1 q1
theorem snd_cb2 {rc : List V → Hp → VK → Prop} (ho : OpE G (Un2 rc) g) (ha : Snd G W (RE G) ta fa) (hb : Snd G W (RR G) tb fb) : Snd G W (RE G) (tCB rc (tCons ta (tCons tb tNil))) (eBin g fa fb) := fun s σ B H rep =>
  snd_op (r := Un2 rc) ho ha hb s σ B H rep
/-! ### displays -/
def tupD (ds : List D) : Option D := if ds.length ≤ sizeLine then some (.tup ds) else none
def lstD (ds : List D) : Option D := if ds.length ≤ sizeLine then some (.lst ds) else none
theorem snd_tup (hr : Snd G W (RA G) tr fr) : Snd G W (RE G) (tTup tr) (eArgs tupD fr) := fun s σ B H rep =>
  At.seq (R2 := RE G) (t2 := fun (xs : List V) H1 Q => xs.length ≤ sizeLine ∧ ∀ p, H1 p = none → Q (.ref p) (upd H1 p (.tup xs))) (hr s σ B H rep) fun ds s1 vs B1 H1 e1 g1 r1 (q1 : RDs G B1 ds vs) =>
    at_opt r1 fun d e Q ok => by
      unfold tupD at e
      split at e
      · rename_i hz
        cases e
        refine ⟨by rw [q1.len]; exact hz, fun p hp => ?_⟩
        exact ok _ (upd B1 p (.tup vs)) _ (.new r1.ex hp) ⟨p, vs, rfl, .of upd_same, q1.mono (.new (r1.ex.back hp))⟩
      · cases e
theorem snd_lst (hr : Snd G W (RA G) tr fr) : Snd G W (RF G) (tLst tr) (eArgs lstD fr) := fun s σ B H rep =>
  At.seq (R2 := RF G) (t2 := fun (xs : List V) H1 Q => xs.length ≤ sizeLine ∧ ∀ p, H1 p = none → Q (.ref p) (upd H1 p (.lst xs))) (hr s σ B H rep) fun ds s1 vs B1 H1 e1 g1 r1 (q1 : RDs G B1 ds vs) =>
    at_opt r1 fun d e Q ok => by
      unfold lstD at e
      split at e
      · rename_i hz
        cases e
        refine ⟨by rw [q1.len]; exact hz, fun p hp => ?_⟩
        exact ok _ B1 _ (.newF r1.ex hp) ⟨p, rfl, hp, r1.ex.back hp, vs, upd_same, q1⟩
      · cases e
end
end DL

/-! ## DLc -/
namespace DL
open PySem L2

/-! ### the data as the library's -/
mutual
def D.py : D → PyData
  | .non => .none
  | .bl b => .bool b
  | .int i => .int i
  | .str s => .str s
  | .tup ds => .tuple (pys ds)
  | .lst ds => .list (pys ds)
  | .scr _ => .none
  | .rng _ _ => .none
  | .dct _ => .none
  | .obj _ _ => .none
def pys : List D → List PyData
  | [] => []
  | d :: ds => d.py :: pys ds
end
mutual
/-- none, bools, ints, texts, lists and tuples of such -/
def D.pl : D → Bool
  | .non => true
  | .bl _ => true
  | .int _ => true
  | .str _ => true
  | .tup ds => pls ds
  | .lst ds => pls ds
  | _ => false
def pls : List D → Bool
  | [] => true
  | d :: ds => d.pl && pls ds
end
theorem pys_map : ∀ ds : List D, pys ds = ds.map D.py
  | [] => rfl
  | d :: ds => by rw [pys, pys_map ds]; rfl
section
variable {G : Tb} {B H : Hp}
mutual
theorem RD.dp : ∀ (d : D) (v : V), d.pl = true → RD G B d v → Dp G.K B v d.py
  | .non, _, _, h => by rw [show _ = V.non from h]; exact .non
  | .bl b, _, _, h => by rw [show _ = V.bl b from h]; exact .bl b
  | .int b, _, _, h => by rw [show _ = V.int b from h]; exact .int b
  | .str b, _, _, h => by rw [show _ = V.str b from h]; exact .str b
  | .tup ds, _, p, h => by obtain ⟨a, vs, rfl, h2, h3⟩ := h; exact .tup h2 (RDs.dp ds vs (by simpa [D.pl] using p) h3)
  | .lst ds, _, p, h => by obtain ⟨a, vs, rfl, h2, h3⟩ := h; exact .lst (.of h2) (RDs.dp ds vs (by simpa [D.pl] using p) h3)
  | .scr _, _, p, _ => by simp [D.pl] at p
  | .rng _ _, _, p, _ => by simp [D.pl] at p
  | .dct _, _, p, _ => by simp [D.pl] at p
  | .obj _ _, _, p, _ => by simp [D.pl] at p
theorem RDs.dp : ∀ (ds : List D) (vs : List V), pls ds = true → RDs G B ds vs → DpAll G.K B vs (pys ds)
  | [], _, _, h => by rw [show _ = [] from h]; exact .nil
  | d :: ds, _, p, h => by
    obtain ⟨v, r, rfl, h2, h3⟩ := h
    have p' : d.pl = true ∧ pls ds = true := by simpa [pls] using p
    exact .cons (RD.dp d v p'.1 h2) (RDs.dp ds r p'.2 h3)
end
mutual
theorem dp_mono {K : PySem.W.Frag} {B H : Hp} (e : Ex B H) : ∀ {v : V} {d : PyData}, Dp K B v d → Dp K H v d
  | _, _, .non => .non
  | _, _, .bl b => .bl b
  | _, _, .int b => .int b
  | _, _, .str b => .str b
  | _, _, .lst h r => .lst (ex_l e h) (dpa_mono e r)
  | _, _, .tup h r => .tup (ex_t e h) (dpa_mono e r)
theorem dpa_mono {K : PySem.W.Frag} {B H : Hp} (e : Ex B H) : ∀ {v : List V} {d : List PyData}, DpAll K B v d → DpAll K H v d
  | _, _, .nil => .nil
  | _, _, .cons h r => .cons (dp_mono e h) (dpa_mono e r)
end
theorem RDo.dp (ex : Ex B H) {d : D} {v : V} (p : d.pl = true) (h : RDo G B H d v) : Dp G.K H v d.py := by
  cases d with
  | lst ds => obtain ⟨a, vs, rfl, h2, h3⟩ := h; exact .lst (.of h2) (dpa_mono ex (RDs.dp ds vs (by simpa [D.pl] using p) h3))
  | dct _ => simp [D.pl] at p
  | obj _ _ => simp [D.pl] at p
  | scr _ => simp [D.pl] at p
  | rng _ _ => simp [D.pl] at p
  | non => exact dp_mono ex (RD.dp _ _ p h)
  | bl _ => exact dp_mono ex (RD.dp _ _ p h)
  | int _ => exact dp_mono ex (RD.dp _ _ p h)
  | str _ => exact dp_mono ex (RD.dp _ _ p h)
  | tup _ => exact dp_mono ex (RD.dp _ _ p h)
end

/-! ### operators by values -/
def i2 (g : Int → Int → D) : D → D → Option D
  | .int a, .int b => some (g a b)
  | _, _ => none
def i2c (C : Int → Int → Prop) [∀ a b, Decidable (C a b)] (g : Int → Int → D) : D → D → Option D
  | .int a, .int b => if C a b then some (g a b) else none
  | _, _ => none
section
variable {G : Tb}
theorem opE_i2 {g : Int → Int → V} {g' : Int → Int → D} (h : ∀ a b B, RD G B (g' a b) (g a b)) : OpE G (rI0 g) (i2 g') := by
  intro B H x y v u d ex rx ry e Q q
  unfold i2 at e
  split at e
  · cases e; exact ⟨_, _, rx, ry, q _ B H (.refl ex) (h _ _ _)⟩
  · cases e
theorem opE_i2c {C : Int → Int → Prop} [∀ a b, Decidable (C a b)] {C' : Int → Int → Prop} {g : Int → Int → V} {g' : Int → Int → D} (hc : ∀ a b, C a b → C' a b) (h : ∀ a b B, RD G B (g' a b) (g a b)) : OpE G (rI C' g) (i2c C g') := by
  intro B H x y v u d ex rx ry e Q q
  unfold i2c at e
  split at e
  · split at e
    · rename_i hC; cases e; exact ⟨_, _, rx, ry, hc _ _ hC, q _ B H (.refl ex) (h _ _ _)⟩
    · cases e
  · cases e
/-- a or b, whichever answers -/
def orD (g h : D → D → Option D) : D → D → Option D := fun x y => match g x y with
  | some d => some d
  | none => h x y
theorem opE_or {r r' : R2} {g h : D → D → Option D} (a : OpE G r g) (b : OpE G r' h) : OpE G (fun x y H Q => r x y H Q ∨ r' x y H Q) (orD g h) := by
  intro B H x y v u d ex rx ry e Q q
  unfold orD at e
  split at e
  · rename_i e1; cases e; exact .inl (a B H x y v u _ ex rx ry e1 Q q)
  · exact .inr (b B H x y v u _ ex rx ry e Q q)
theorem OpF.opE {r : R2} {g : D → D → Option D} (a : OpF G r g) : OpE G r g := fun B H x y v u d ex rx ry e Q q => a B H x y v u d ex rx ry e Q fun p B' H' gr hp hb hO => by
  obtain ⟨o, ho, hr⟩ := hO.freeze hb
  refine q _ (upd B' p o) H' ⟨gr.b.trans (.new hb), gr.h, fun c w z => ?_, fun c z => ?_⟩ hr
  · by_cases k : c = p
    · subst k; rw [upd_same] at z; rw [ho]; exact z
    · rw [upd_ne k] at z; exact gr.ex c w z
  · by_cases k : c = p
    · exact .inr (k ▸ hp)
    · rw [upd_ne k] at z; exact gr.nw c z
def addS : D → D → Option D
  | .str a, .str b => if a.length + b.length ≤ sizeLine then some (.str (a ++ b)) else none
  | _, _ => none
theorem opE_addS : OpE G (fun x y H Q => ∃ i j, x = .str i ∧ y = .str j ∧ i.length + j.length ≤ sizeLine ∧ Q (.str (i ++ j)) H) addS := by
  intro B H x y v u d ex rx ry e Q q
  unfold addS at e
  split at e
  · split at e
    · rename_i hC; cases e; exact ⟨_, _, rx, ry, hC, q _ B H (.refl ex) rfl⟩
    · cases e
  · cases e
def catT : D → D → Option D
  | .tup (x :: a), .tup b => if (x :: a).length + b.length ≤ sizeLine then some (.tup ((x :: a) ++ b)) else none
  | _, _ => none
theorem opE_catT : OpE G (rCatT G.K) catT := by
  intro B H x y v u d ex rx ry e Q q
  unfold catT at e
  split at e
  · split at e
    · rename_i x a b hC; cases e
      obtain ⟨p, vs, rfl, h1, h2⟩ := rx
      obtain ⟨p', vs', rfl, h1', h2'⟩ := ry
      refine ⟨p, p', vs, vs', rfl, rfl, ex_t ex h1, ex_t ex h1', ?_, by rw [h2.len, h2'.len]; exact hC, fun e0 => ?_, fun _ c hc => ?_⟩
      · intro z; rw [z] at h2; obtain ⟨_, _, z, _⟩ := h2; cases z
      · have hb : b = [] := by rw [e0] at h2'; cases b with
          | nil => rfl
          | cons _ _ => obtain ⟨_, _, z, _⟩ := h2'; cases z
        subst hb
        exact q _ B H (.refl ex) ⟨p, vs, rfl, h1, by rw [List.append_nil]; exact h2⟩
      · exact q _ _ _ (.new ex hc) ⟨c, vs ++ vs', rfl, .of upd_same, (h2.append h2').mono (.new (ex.back hc))⟩
    · cases e
  · cases e
def catL : D → D → Option D
  | .lst a, .lst b => if a.length + b.length ≤ sizeLine then some (.lst (a ++ b)) else none
  | _, _ => none
theorem opF_catL : OpF G rCat catL := by
  intro B H x y v u d ex rx ry e Q q
  unfold catL at e
  split at e
  · split at e
    · rename_i a b hC; cases e
      obtain ⟨p, vs, rfl, h1, h2⟩ := rx
      obtain ⟨p', vs', rfl, h1', h2'⟩ := ry
      refine ⟨p, p', vs, vs', rfl, rfl, h1, h1', by rw [h2.len, h2'.len]; exact hC, fun c hc => ?_⟩
      exact q _ B _ (.newF ex hc) hc (ex.back hc) ⟨vs ++ vs', upd_same, h2.append h2'⟩
    · cases e
  · cases e
def repL : D → D → Option D
  | .lst a, .int k => if -(2 ^ 63) ≤ k ∧ k < 2 ^ 63 ∧ a.length * k.toNat ≤ sizeLine then some (.lst (List.replicate k.toNat a).flatten) else none
  | _, _ => none
theorem rep_rd {B : Hp} {a : List D} {vs : List V} (h : RDs G B a vs) : ∀ n : Nat, RDs G B (List.replicate n a).flatten (List.replicate n vs).flatten
  | 0 => rfl
  | n + 1 => by rw [List.replicate_succ, List.replicate_succ, List.flatten_cons, List.flatten_cons]; exact h.append (rep_rd h n)
theorem opF_repL : OpF G rRep repL := by
  intro B H x y v u d ex rx ry e Q q
  unfold repL at e
  split at e
  · split at e
    · rename_i a k hC; cases e
      obtain ⟨p, vs, rfl, h1, h2⟩ := rx
      refine ⟨p, k, vs, rfl, ry, h1, hC.1, hC.2.1, by rw [h2.len]; exact hC.2.2, fun c hc => ?_⟩
      exact q _ B _ (.newF ex hc) hc (ex.back hc) ⟨_, upd_same, rep_rd h2 _⟩
    · cases e
  · cases e
/-- + : ints, texts, tuples (lists: a new one, frozen) -/
def rAddU (K : PySem.W.Frag) : R2 := fun x y H Q => (rI0 (fun i j => V.int (i + j)) x y H Q ∨ (∃ i j, x = .str i ∧ y = .str j ∧ i.length + j.length ≤ sizeLine ∧ Q (.str (i ++ j)) H)) ∨ (rCatT K x y H Q ∨ rCat x y H Q)
theorem op_addU {X : Cx} : OpR X (binaryOp .Add) (rAddU X.K) := (op_add.or op_add_str).or (op_catT.or op_cat)
def addD : D → D → Option D := orD (orD (i2 fun a b => .int (a + b)) addS) (orD catT catL)
theorem opE_add : OpE G (rAddU G.K) addD := opE_or (opE_or (opE_i2 fun _ _ _ => rfl) opE_addS) (opE_or opE_catT opF_catL.opE)
theorem OpF.mono {r r' : R2} {g : D → D → Option D} (a : OpF G r g) (h : ∀ x y H Q, r x y H Q → r' x y H Q) : OpF G r' g := fun B H x y v u d ex rx ry e Q q => h _ _ _ _ (a B H x y v u d ex rx ry e Q q)
theorem opF_cat : OpF G (rAddU G.K) catL := opF_catL.mono fun _ _ _ _ h => .inr (.inr h)
def subD : D → D → Option D := i2 fun a b => .int (a - b)
def MulOk (a b : Int) : Prop := ((-(2 ^ 64) < a ∧ a < 2 ^ 64) ∨ (-(2 ^ 64) < b ∧ b < 2 ^ 64)) ∨ a.natAbs.log2 + b.natAbs.log2 < 1000000
instance (a b : Int) : Decidable (MulOk a b) := inferInstanceAs (Decidable (_ ∨ _))
def rMulU : R2 := fun x y H Q => (rI CMul (fun i j => V.int (i * j)) x y H Q ∨ rI CMulW (fun i j => V.int (i * j)) x y H Q) ∨ rRep x y H Q
theorem op_mulU {X : Cx} : OpR X (binaryOp .Mult) rMulU := (op_mul.or op_mulW).or op_rep
def mulI : D → D → Option D := i2c MulOk fun a b => .int (a * b)
def mulD : D → D → Option D := orD mulI repL
theorem opE_mulI : OpE G (fun x y H Q => rI CMul (fun i j => V.int (i * j)) x y H Q ∨ rI CMulW (fun i j => V.int (i * j)) x y H Q) mulI := by
  intro B H x y v u d ex rx ry e Q q
  unfold mulI i2c at e
  split at e
  · split at e
    · rename_i hC; cases e
      rcases hC with hC | hC
      · exact .inl ⟨_, _, rx, ry, hC, q _ B H (.refl ex) rfl⟩
      · exact .inr ⟨_, _, rx, ry, hC, q _ B H (.refl ex) rfl⟩
    · cases e
  · cases e
theorem opE_mul : OpE G rMulU mulD := opE_or opE_mulI opF_repL.opE
theorem opF_rep : OpF G rMulU repL := opF_repL.mono fun _ _ _ _ h => .inr h
def DivOk (_ b : Int) : Prop := 0 < b ∧ b.natAbs.log2 < 9000
instance (a b : Int) : Decidable (DivOk a b) := inferInstanceAs (Decidable (_ ∧ _))
def divD : D → D → Option D := i2c DivOk fun a b => .int (a / b)
theorem opE_div : OpE G (rI CDivW fun i j => .int (i / j)) divD := opE_i2c (fun _ _ h => h) fun _ _ _ => rfl
def modD : D → D → Option D := i2c (fun _ b => 0 < b) fun a b => .int (a % b)
theorem opE_mod : OpE G (rI (fun _ j => 0 < j) fun i j => .int (i % j)) modD := opE_i2c (fun _ _ h => h) fun _ _ _ => rfl
def PowOk (a b : Int) : Prop := 0 ≤ b ∧ b ≤ 1000000 ∧ a.natAbs < 2 ^ 64
instance (a b : Int) : Decidable (PowOk a b) := inferInstanceAs (Decidable (_ ∧ _))
def powD : D → D → Option D := i2c PowOk fun a b => .int (a ^ b.toNat)
theorem opE_pow : OpE G (rI CPow fun i j => .int (i ^ j.toNat)) powD := opE_i2c (fun _ _ h => h) fun _ _ _ => rfl
def shlD : D → D → Option D := i2c PowOk fun a b => .int (a * 2 ^ b.toNat)
theorem opE_shl : OpE G (rI CPow fun i j => .int (i * 2 ^ j.toNat)) shlD := opE_i2c (fun _ _ h => h) fun _ _ _ => rfl
def shrD : D → D → Option D := i2c (fun _ b => 0 ≤ b) fun a b => .int (a / 2 ^ b.toNat)
theorem opE_shr : OpE G (rI (fun _ j => 0 ≤ j) fun i j => .int (i / 2 ^ j.toNat)) shrD := opE_i2c (fun _ _ h => h) fun _ _ _ => rfl
def bandD : D → D → Option D := i2 fun a b => .int (Builtin.bitAnd a b)
def borD : D → D → Option D := i2 fun a b => .int (Builtin.bitOr a b)
def bxorD : D → D → Option D := i2 fun a b => .int (Builtin.bitXor a b)
def ltD : D → D → Option D := i2 fun a b => .bl (decide (a < b))
def leD : D → D → Option D := i2 fun a b => .bl (decide (a ≤ b))
def gtD : D → D → Option D := i2 fun a b => .bl (decide (b < a))
def geD : D → D → Option D := i2 fun a b => .bl (decide (b ≤ a))
def negD : D → Option D
  | .int a => some (.int (-a))
  | _ => none
def invD : D → Option D
  | .int a => some (.int (Builtin.bitNot a))
  | _ => none
theorem unE_neg : UnE G (rU fun i => .int (-i)) negD := by
  intro B H x v d ex rx e Q q
  unfold negD at e
  split at e
  · cases e; exact ⟨_, rx, q _ B H (.refl ex) rfl⟩
  · cases e
theorem unE_inv : UnE G (rU fun i => .int (Builtin.bitNot i)) invD := by
  intro B H x v d ex rx e Q q
  unfold invD at e
  split at e
  · cases e; exact ⟨_, rx, q _ B H (.refl ex) rfl⟩
  · cases e
/-! == and !=, in and not in, is None -/
def okD (d : D) : Bool := d.pl && SeqAt.shaped d.py
def eqD : D → D → Option D := fun x y => if okD x && okD y then some (.bl (PyData.eqv x.py y.py)) else none
def neD : D → D → Option D := fun x y => if okD x && okD y then some (.bl (!PyData.eqv x.py y.py)) else none
theorem opE_eq : OpE G (rEqD G.K) eqD := by
  intro B H x y v u d ex rx ry e Q q
  unfold eqD at e
  split at e
  · rename_i h
    simp only [okD, Bool.and_eq_true] at h
    cases e
    exact ⟨_, _, rx.dp ex h.1.1, ry.dp ex h.2.1, h.1.2, h.2.2, q _ B H (.refl ex) rfl⟩
  · cases e
theorem opE_ne : OpE G (rNeD G.K) neD := by
  intro B H x y v u d ex rx ry e Q q
  unfold neD at e
  split at e
  · rename_i h
    simp only [okD, Bool.and_eq_true] at h
    cases e
    exact ⟨_, _, rx.dp ex h.1.1, ry.dp ex h.2.1, h.1.2, h.2.2, q _ B H (.refl ex) rfl⟩
  · cases e
def isND : D → Option D
  | .non => some (.bl true)
  | .scr _ => none
  | _ => some (.bl false)
def notND : D → Option D
  | .non => some (.bl false)
  | .scr _ => none
  | _ => some (.bl true)
theorem non_iff {B H : Hp} {x : D} {v : V} (rx : RDo G B H x v) : v = .non ↔ x = .non := by
  cases x with
  | non => exact ⟨fun _ => rfl, fun _ => rx⟩
  | bl _ => rw [show v = _ from rx]; exact ⟨(fun h => by cases h), fun h => by cases h⟩
  | int _ => rw [show v = _ from rx]; exact ⟨(fun h => by cases h), fun h => by cases h⟩
  | str _ => rw [show v = _ from rx]; exact ⟨(fun h => by cases h), fun h => by cases h⟩
  | tup _ => obtain ⟨a, vs, rfl, _⟩ := rx; exact ⟨(fun h => by cases h), fun h => by cases h⟩
  | lst _ => obtain ⟨a, vs, rfl, _⟩ := rx; exact ⟨(fun h => by cases h), fun h => by cases h⟩
  | scr _ => obtain ⟨a, rfl, _⟩ := rx; exact ⟨(fun h => by cases h), fun h => by cases h⟩
  | rng _ _ => obtain ⟨a, rfl, _⟩ := rx; exact ⟨(fun h => by cases h), fun h => by cases h⟩
  | dct _ => obtain ⟨a, vs, rfl, _⟩ := rx; exact ⟨(fun h => by cases h), fun h => by cases h⟩
  | obj _ _ => obtain ⟨a, dx, vs, rfl, _⟩ := rx; exact ⟨(fun h => by cases h), fun h => by cases h⟩
def dNon : D → Bool
  | .non => true
  | _ => false
theorem dec_non {B H : Hp} {x : D} {v : V} (rx : RDo G B H x v) : decide (v = .non) = dNon x := by
  have h := non_iff rx
  cases x with
  | non => exact decide_eq_true (h.2 rfl)
  | _ => exact decide_eq_false fun z => by cases h.1 z
def isNonD : D → Option D := fun x => some (.bl (dNon x))
def notNonD : D → Option D := fun x => some (.bl (!dNon x))
theorem snd_isN {W : WX} {ta : TE} {fa : M D} (ha : Snd G W (RR G) ta fa) : Snd G W (RE G) (tOp (fun x y H Q => y = .non ∧ Q (.bl (decide (x = .non))) H) ta (tC .non)) (eUn isNonD fa) := fun s σ B H rep =>
  At.seq (R2 := RE G) (t2 := fun (x : V) H1 Q => V.non = V.non ∧ Q (V.bl (decide (x = V.non))) H1) (ha s σ B H rep) fun x s1 v B1 H1 e1 g1 r1 q1 =>
    at_opt r1 fun d e Q ok => ⟨rfl, by cases e; exact ok _ B1 H1 (.refl r1.ex) (by rw [dec_non q1]; rfl)⟩
theorem snd_notN {W : WX} {ta : TE} {fa : M D} (ha : Snd G W (RR G) ta fa) : Snd G W (RE G) (tOp (fun x y H Q => y = .non ∧ Q (.bl (!decide (x = .non))) H) ta (tC .non)) (eUn notNonD fa) := fun s σ B H rep =>
  At.seq (R2 := RE G) (t2 := fun (x : V) H1 Q => V.non = V.non ∧ Q (V.bl (!decide (x = V.non))) H1) (ha s σ B H rep) fun x s1 v B1 H1 e1 g1 r1 q1 =>
    at_opt r1 fun d e Q ok => ⟨rfl, by cases e; exact ok _ B1 H1 (.refl r1.ex) (by rw [dec_non q1]; rfl)⟩
def flatD : D → Bool
  | .non => true
  | .bl _ => true
  | .int _ => true
  | .str _ => true
  | _ => false
def inTupD (ds : List D) (x : D) : Bool := ds.any fun y => PyData.eqv y.py x.py
theorem flat_V {B : Hp} {d : D} {v : V} (h : RD G B d v) (f : flatD d = true) : flatV v = true := by
  cases d <;> simp only [flatD] at f <;> first | exact absurd f (by decide) | skip
  all_goals rw [show v = _ from h]; rfl
theorem flats_V {B : Hp} : ∀ {ds : List D} {vs : List V}, RDs G B ds vs → ds.all flatD = true → vs.all flatV = true
  | [], _, h, _ => by rw [show _ = [] from h]; rfl
  | d :: ds, _, ⟨v, r, e, h2, h3⟩, f => by
    rw [List.all_cons, Bool.and_eq_true] at f
    rw [e, List.all_cons, flat_V h2 f.1, flats_V h3 f.2]; rfl
theorem eqV_py {B : Hp} {d e : D} {v u : V} (h : RD G B d v) (k : RD G B e u) (f : flatD d = true) (g : flatD e = true) : eqV v u = PyData.eqv d.py e.py := by
  cases d <;> simp only [flatD] at f <;> first | exact absurd f (by decide) | skip
  all_goals (cases e <;> simp only [flatD] at g <;> first | exact absurd g (by decide) | skip)
  all_goals (rw [show v = _ from h, show u = _ from k]; simp [eqV, D.py, PyData.eqv])
theorem inV_py {B : Hp} {e : D} {u : V} (k : RD G B e u) (g : flatD e = true) : ∀ {ds : List D} {vs : List V}, RDs G B ds vs → ds.all flatD = true → inV u vs = inTupD ds e
  | [], _, h, _ => by rw [show _ = [] from h]; rfl
  | d :: ds, _, ⟨v, r, e1, h2, h3⟩, f => by
    rw [List.all_cons, Bool.and_eq_true] at f
    have ih := inV_py k g h3 f.2
    unfold inV inTupD at *
    rw [e1, List.any_cons, List.any_cons, eqV_py h2 k f.1 g, ih]
/-- x in a tuple of flat things; in a list of data; a text in a text; a key in a dict -/
def inT : D → D → Option Bool
  | x, .tup ds => if flatD x && ds.all flatD then some (inTupD ds x) else none
  | x, .lst ds => if okD x && okD (.lst ds) then some (inTupD ds x) else none
  | .str a, .str b => some (!(Builtin.Str.occurrences b a 0 b.length 1).isEmpty)
  | _, _ => none
def rInU (K : PySem.W.Frag) : R2 := fun x y H Q => (rIn K false x y H Q ∨ rInD K x y H Q) ∨ ∃ i j, x = .str i ∧ y = .str j ∧ Q (.bl (!(Builtin.Str.occurrences j i 0 j.length 1).isEmpty)) H
def rNotInU (K : PySem.W.Frag) : R2 := fun x y H Q => (rIn K true x y H Q ∨ rNotInD K x y H Q) ∨ ∃ i j, x = .str i ∧ y = .str j ∧ Q (.bl (!(!(Builtin.Str.occurrences j i 0 j.length 1).isEmpty))) H
theorem op_inU {X : Cx} (hu : X.A.units + 65 < cLine) : OpR X (compareOp .In) (rInU X.K) := (op_in_seq.or (op_inD hu)).or op_in_str
theorem op_notInU {X : Cx} (hu : X.A.units + 65 < cLine) : OpR X (compareOp .NotIn) (rNotInU X.K) := (op_notIn_seq.or (op_notInD hu)).or L2.op_notIn_str
def inD : D → D → Option D := fun x y => (inT x y).map .bl
def notInD : D → D → Option D := fun x y => (inT x y).map fun b => .bl (!b)
theorem any_py (e : PyData) : ∀ ds : List D, ((pys ds).any fun z => PyData.eqv z e) = ds.any fun y => PyData.eqv y.py e
  | [] => rfl
  | d :: ds => by rw [pys, List.any_cons, List.any_cons, any_py e ds]
theorem opE_in : OpE G (rInU G.K) inD := by
  intro B H x y v u d ex rx ry e Q q
  obtain ⟨b, e1, rfl⟩ := Option.map_eq_some_iff.mp e
  unfold inT at e1
  split at e1
  · rename_i ds
    split at e1
    · rename_i h; rw [Bool.and_eq_true] at h; cases e1
      obtain ⟨p, vs, rfl, h2, h3⟩ := ry
      have rx' : RD G B x v := by cases x <;> first | exact rx | (exact absurd h.1 (by simp [flatD]))
      refine .inl (.inl ⟨p, vs, rfl, .inr (ex_t ex h2), flat_V rx' h.1, flats_V h3 h.2, ?_⟩)
      rw [if_neg Bool.false_ne_true, inV_py rx' h.1 h3 h.2]
      exact q _ B H (.refl ex) rfl
    · cases e1
  · rename_i ds
    split at e1
    · rename_i h; simp only [okD, Bool.and_eq_true] at h; cases e1
      refine .inl (.inr ⟨_, pys ds, rx.dp ex h.1.1, RDo.dp (d := .lst ds) ex h.2.1 ry, h.1.2, h.2.2, ?_⟩)
      rw [any_py]
      exact q _ B H (.refl ex) rfl
    · cases e1
  · cases e1; exact .inr ⟨_, _, rx, ry, q _ B H (.refl ex) rfl⟩
  · cases e1
theorem opE_notIn : OpE G (rNotInU G.K) notInD := by
  intro B H x y v u d ex rx ry e Q q
  obtain ⟨b, e1, rfl⟩ := Option.map_eq_some_iff.mp e
  unfold inT at e1
  split at e1
  · rename_i ds
    split at e1
    · rename_i h; rw [Bool.and_eq_true] at h; cases e1
      obtain ⟨p, vs, rfl, h2, h3⟩ := ry
      have rx' : RD G B x v := by cases x <;> first | exact rx | (exact absurd h.1 (by simp [flatD]))
      refine .inl (.inl ⟨p, vs, rfl, .inr (ex_t ex h2), flat_V rx' h.1, flats_V h3 h.2, ?_⟩)
      rw [if_pos rfl, inV_py rx' h.1 h3 h.2]
      exact q _ B H (.refl ex) rfl
    · cases e1
  · rename_i ds
    split at e1
    · rename_i h; simp only [okD, Bool.and_eq_true] at h; cases e1
      refine .inl (.inr ⟨_, pys ds, rx.dp ex h.1.1, RDo.dp (d := .lst ds) ex h.2.1 ry, h.1.2, h.2.2, ?_⟩)
      rw [any_py]
      exact q _ B H (.refl ex) rfl
    · cases e1
  · cases e1; exact .inr ⟨_, _, rx, ry, q _ B H (.refl ex) rfl⟩
  · cases e1
/-! ### items and slices -/
def ixD : D → D → Option D
  | .lst ds, .int i => atI ds i
  | .tup ds, .int i => atI ds i
  | .str z, .int i => if z.length ≤ sizeLine then (atI z.cps.toList i).map fun c => .str ⟨#[c]⟩ else none
  | _, _ => none
theorem atI_rd {B : Hp} {ds : List D} {vs : List V} {i : Int} {d : D} (h : RDs G B ds vs) (e : atI ds i = some d) : ∃ v, atI vs i = some v ∧ RD G B d v := by
  unfold atI at *
  rw [h.len]
  obtain ⟨j, h1, h2⟩ := Option.bind_eq_some_iff.mp e
  obtain ⟨v, h3, h4⟩ := h.get h2
  exact ⟨v, Option.bind_eq_some_iff.mpr ⟨j, h1, h3⟩, h4⟩
theorem opE_ix : OpE G (rIx G.K) ixD := by
  intro B H x y v u d ex rx ry e Q q
  unfold ixD at e
  split at e
  · obtain ⟨p, vs, rfl, h2, h3⟩ := rx
    obtain ⟨w, h4, h5⟩ := atI_rd h3 e
    exact .inl ⟨p, vs, _, w, rfl, ry, .of h2, h4, q _ B H (.refl ex) h5⟩
  · obtain ⟨p, vs, rfl, h2, h3⟩ := rx
    obtain ⟨w, h4, h5⟩ := atI_rd h3 e
    exact .inr (.inl ⟨p, vs, _, w, rfl, ry, ex_t ex h2, h4, q _ B H (.refl ex) h5⟩)
  · split at e
    · rename_i hz
      obtain ⟨c, h1, rfl⟩ := Option.map_eq_some_iff.mp e
      exact .inr (.inr ⟨_, _, c, rx, ry, hz, h1, q _ B H (.refl ex) rfl⟩)
    · cases e
  · cases e
end
end DL

/-! ## DLd -/
namespace DL
open PySem L2
/-! ### statements -/
inductive Fl where
  | nx | bk | ct
  | rt (d : D)
  deriving Inhabited
structure GrS (fx : List Nat) (s : Sl) (σ : St) (B H : Hp) (s' : Sl) (σ' : St) (B' H' : Hp) : Prop where
  b : Ex B B'
  keep : ∀ a o, H a = some o → ¬ OwnS s σ a → H' a = some o
  new : ∀ a, B' a ≠ none → B a ≠ none ∨ H a = none ∨ OwnS s σ a
  dom : ∀ a, H a ≠ none → H' a ≠ none
  own : ∀ a, OwnS s' σ' a → OwnS s σ a ∨ H a = none
  fix : ∀ i ∈ fx, σ'[i]? = σ[i]? ∧ ∀ d, s[i]? = some (.own d) → ∃ d', s'[i]? = some (.own d')
def Post (G : Tb) (Dd : Ends) : Fl → St → Hp → Hp → Prop
  | .nx, σ', _, H' => Dd.nx σ' H'
  | .bk, σ', _, H' => Dd.bk σ' H'
  | .ct, σ', _, H' => Dd.ct σ' H'
  | .rt d, _, B', H' => ∀ v, RD G B' d v → Dd.rt v H'
def SndS (G : Tb) (W : WX) (fx : List Nat) (t : TS) (f : M Fl) : Prop := ∀ s σ B H, Rep G s σ B H → ∀ Dd : Ends,
  (∀ fl s' σ' B' H', f s = .ok fl s' → GrS fx s σ B H s' σ' B' H' → Rep G s' σ' B' H' → Post G Dd fl σ' B' H') →
  (∀ x s' σ' dd B' H', f s = .exc x s' → GrS fx s σ B H s' σ' B' H' → Rep G s' σ' B' H' → ExcAt G B' H' x dd → W (.ref (G.ca x.c)) (some dd) σ' H') →
  f s ≠ .no → t Dd σ H
section
variable {G : Tb} {W : WX} {fx : List Nat} {s s1 s2 : Sl} {σ σ1 σ2 : St} {B H B1 H1 B2 H2 : Hp}
theorem Gr.st (g : Gr s σ B H s1 B1 H1) : GrS fx s σ B H s1 σ B1 H1 := ⟨g.b, g.keep, fun a h => (g.new a h).imp_right .inl, g.dom, fun a h => .inl (g.pat.own.1 h), fun i _ => ⟨rfl, fun d h => (g.pat.2 i).2 ⟨d, h⟩⟩⟩
theorem GrS.refl : GrS fx s σ B H s σ B H := Gr.refl.st
theorem GrS.trans (a : GrS fx s σ B H s1 σ1 B1 H1) (b : GrS fx s1 σ1 B1 H1 s2 σ2 B2 H2) : GrS fx s σ B H s2 σ2 B2 H2 where
  b := a.b.trans b.b
  keep := fun p o h n => b.keep p o (a.keep p o h n) fun z => by
    rcases a.own p z with y | y
    · exact n y
    · rw [y] at h; cases h
  new := fun p h => by
    rcases b.new p h with z | z | z
    · exact a.new p z
    · by_cases q : H p = none
      · exact .inr (.inl q)
      · exact absurd z (a.dom p q)
    · exact (a.own p z).elim (fun y => .inr (.inr y)) fun y => .inr (.inl y)
  dom := fun p h => b.dom p (a.dom p h)
  own := fun p h => by
    rcases b.own p h with z | z
    · exact a.own p z
    · by_cases q : H p = none
      · exact .inr q
      · exact absurd z (a.dom p q)
  fix := fun i hi => ⟨(b.fix i hi).1.trans (a.fix i hi).1, fun d h => by
    obtain ⟨d', h'⟩ := (a.fix i hi).2 d h
    exact (b.fix i hi).2 d' h'⟩
def seqK (g : M Fl) : Fl → M Fl
  | .nx => g
  | .bk => ret .bk
  | .ct => ret .ct
  | .rt d => ret (.rt d)
def sSeq (f g : M Fl) : M Fl := bnd f (seqK g)
def sNx : M Fl := ret .nx
theorem sndS_next : SndS G W fx tNext sNx := fun s σ B H rep Dd ok _ _ => ok .nx s σ B H rfl .refl rep
theorem sndS_break : SndS G W fx tBreak (ret .bk) := fun s σ B H rep Dd ok _ _ => ok .bk s σ B H rfl .refl rep
theorem sndS_cont : SndS G W fx tCont (ret .ct) := fun s σ B H rep Dd ok _ _ => ok .ct s σ B H rfl .refl rep
theorem sndS_never : SndS G W fx tNever no := fun _ _ _ _ _ _ _ _ n => n rfl
theorem sndS_seq {t u : TS} {f g : M Fl} (h1 : SndS G W fx t f) (h2 : SndS G W fx u g) : SndS G W fx (tSeq t u) (sSeq f g) := fun s σ B H rep Dd ok exc nn => by
  refine h1 s σ B H rep { Dd with nx := u Dd } (fun fl s1 σ1 B1 H1 e1 g1 r1 => ?_) (fun x s1 σ1 dd B1 H1 e1 g1 r1 q1 => exc x s1 σ1 dd B1 H1 (by simp only [sSeq, bnd, e1]) g1 r1 q1) fun e => nn (by simp only [sSeq, bnd, e])
  have eb : sSeq f g s = seqK g fl s1 := by simp only [sSeq, bnd, e1]
  cases fl with
  | nx =>
    exact h2 s1 σ1 B1 H1 r1 Dd (fun fl s' σ' B' H' e g r => ok fl s' σ' B' H' (eb.trans e) (g1.trans g) r) (fun x s' σ' dd B' H' e g r q => exc x s' σ' dd B' H' (eb.trans e) (g1.trans g) r q) fun e => nn (eb.trans e)
  | bk => exact ok .bk s1 σ1 B1 H1 eb g1 r1
  | ct => exact ok .ct s1 σ1 B1 H1 eb g1 r1
  | rt d => exact ok (.rt d) s1 σ1 B1 H1 eb g1 r1
/-- an expression, then what follows at the slots as they are -/
theorem sndS_of {α β : Type} {R : RL α β} {t : TX β} {f : M α} {k : α → M Fl} {u : β → Ends → St → Hp → Prop} (h1 : Snd G W R t f)
    (h2 : ∀ a s σ B H b H0, Rep G s σ B H → R H0 B H a b → (∀ p, H p = none → H0 p = none) → (∀ p, OwnS s σ p → H0 p ≠ none) → ∀ Dd : Ends,
      (∀ fl s' σ' B' H', k a s = .ok fl s' → GrS fx s σ B H s' σ' B' H' → Rep G s' σ' B' H' → Post G Dd fl σ' B' H') →
      (∀ x s' σ' dd B' H', k a s = .exc x s' → GrS fx s σ B H s' σ' B' H' → Rep G s' σ' B' H' → ExcAt G B' H' x dd → W (.ref (G.ca x.c)) (some dd) σ' H') →
      k a s ≠ .no → u b Dd σ H) : SndS G W fx (fun Dd σ H => t σ H fun b H1 => u b Dd σ H1) (bnd f k) := fun s σ B H rep Dd ok exc nn => by
  refine h1 s σ B H rep _ (fun a s1 b B1 H1 e1 g1 r1 q1 => ?_) (fun x s1 dd B1 H1 e1 g1 r1 q1 => exc x s1 σ dd B1 H1 (by simp only [bnd, e1]) g1.st r1 q1) fun e => nn (by simp only [bnd, e])
  have eb : bnd f k s = k a s1 := by simp only [bnd, e1]
  exact h2 a s1 σ B1 H1 b H r1 q1 (fun p => g1.back) (fun p ho => by
      obtain ⟨i, hi⟩ := g1.pat.own.1 ho
      obtain ⟨⟨d, e1⟩, e2⟩ := hi
      obtain ⟨a, q1, q2, q3⟩ := rep.slot i _ e1
      rw [e2] at q1; cases q1
      cases d with
      | lst ds => obtain ⟨vs, w, _⟩ := q3; rw [w]; exact fun z => by cases z
      | dct ds => obtain ⟨vs, w, _⟩ := q3; rw [w]; exact fun z => by cases z
      | obj C ds => obtain ⟨dx, vs, w, _⟩ := q3; rw [w]; exact fun z => by cases z
      | _ => exact q3.elim) Dd (fun fl s' σ' B' H' e g r => ok fl s' σ' B' H' (eb.trans e) (g1.st.trans g) r) (fun x s' σ' dd B' H' e g r q => exc x s' σ' dd B' H' (eb.trans e) (g1.st.trans g) r q) fun e => nn (eb.trans e)
def sRet (f : M D) : M Fl := bnd f fun d => ret (.rt d)
theorem sndS_ret {te : TE} {f : M D} (h : Snd G W (RE G) te f) : SndS G W fx (tRet te) (sRet f) :=
  sndS_of (u := fun b Dd _ H => Dd.rt b H) h fun a s σ B H b H0 rep r _ _ Dd ok _ _ => by
    have e : te = te := rfl
    have := ok (.rt a) s σ B H rfl .refl rep
    exact this b r
def sRetN : M Fl := ret (.rt .non)
theorem sndS_retN : SndS G W fx tRetN sRetN := fun s σ B H rep Dd ok _ _ => ok (.rt .non) s σ B H rfl .refl rep .non rfl
def sDrop {α : Type} (f : M α) : M Fl := bnd f fun _ => sNx
theorem sndS_drop {te : TE} {f : M D} (h : Snd G W (RE G) te f) : SndS G W fx (tDrop te) (sDrop f) :=
  sndS_of (u := fun _ Dd σ H => Dd.nx σ H) h fun a s σ B H b H0 rep r _ _ Dd ok _ _ => ok .nx s σ B H rfl .refl rep
def sIf (c : M Bool) (f g : M Fl) : M Fl := bnd c fun k => if k = true then f else g
theorem sndS_if {tc : TT} {c : M Bool} {t u : TS} {f g : M Fl} (hc : Snd G W RT tc c) (h1 : SndS G W fx t f) (h2 : SndS G W fx u g) : SndS G W fx (tIfS tc t u) (sIf c f g) :=
  sndS_of (u := fun b Dd σ H => if b = true then t Dd σ H else u Dd σ H) hc fun a s σ B H b H0 rep (r : a = b) _ _ Dd ok exc nn => by
    subst r
    cases a with
    | true => exact h1 s σ B H rep Dd ok exc nn
    | false => exact h2 s σ B H rep Dd ok exc nn
/-! ### names are stored -/
def setS (i : Nat) (sl : Slot) : M Fl := fun s => if i < s.length then .ok .nx (s.set i sl) else .no
theorem setS_ok {i : Nat} {sl : Slot} {s : Sl} (h : setS i sl s ≠ .no) : i < s.length ∧ setS i sl s = .ok .nx (s.set i sl) := by
  unfold setS at *
  split at h
  · rename_i q; exact ⟨q, by rw [if_pos q]⟩
  · exact absurd rfl h
theorem owns_set {i j : Nat} {sl : Slot} {s : Sl} {σ : St} {v : V} {a : Addr} (h : Owns (s.set i sl) (σ.set i (some v)) j a) : (j = i ∧ (∃ d, sl = .own d) ∧ v = .ref a) ∨ (j ≠ i ∧ Owns s σ j a) := by
  obtain ⟨⟨d, h1⟩, h2⟩ := h
  by_cases q : j = i
  · subst q
    have l1 : j < s.length := by
      have := (List.getElem?_eq_some_iff.mp h1).1; simpa using this
    have l2 : j < σ.length := by
      have := (List.getElem?_eq_some_iff.mp h2).1; simpa using this
    rw [List.getElem?_set_self l1] at h1
    rw [List.getElem?_set_self l2] at h2
    cases h1; cases h2
    exact .inl ⟨rfl, ⟨d, rfl⟩, rfl⟩
  · rw [List.getElem?_set_ne (Ne.symm q)] at h1 h2
    exact .inr ⟨q, ⟨d, h1⟩, h2⟩
theorem Rep.setSh {i : Nat} {d : D} {v : V} (r : Rep G s σ B H) (hi : i < s.length) (h : RD G B d v) : Rep G (s.set i (.sh d)) (σ.set i (some v)) B H := by
  refine ⟨r.ex, by rw [List.length_set, List.length_set]; exact r.len, fun j sl e => ?_, fun j k a h1 h2 => ?_⟩
  · by_cases q : j = i
    · subst q
      rw [List.getElem?_set_self hi] at e; cases e
      exact ⟨v, List.getElem?_set_self (by rw [← r.len]; exact hi), h⟩
    · rw [List.getElem?_set_ne (Ne.symm q)] at e
      rw [List.getElem?_set_ne (Ne.symm q)]
      exact r.slot j sl e
  · rcases owns_set h1 with ⟨_, ⟨d', z⟩, _⟩ | ⟨q1, z1⟩
    · cases z
    · rcases owns_set h2 with ⟨_, ⟨d', z⟩, _⟩ | ⟨q2, z2⟩
      · cases z
      · exact r.sep j k a z1 z2
theorem GrS.setSh {i : Nat} {d : D} {v : V} (hf : i ∉ fx) : GrS fx s σ B H (s.set i (.sh d)) (σ.set i (some v)) B H := by
  refine ⟨.refl _, fun _ _ h _ => h, fun a h => .inl h, fun _ h => h, fun a ⟨j, h⟩ => ?_, fun j hj => ?_⟩
  · rcases owns_set h with ⟨_, ⟨d', z⟩, _⟩ | ⟨_, z⟩
    · cases z
    · exact .inl ⟨j, z⟩
  · have q : j ≠ i := fun e => hf (e ▸ hj)
    rw [List.getElem?_set_ne (Ne.symm q), List.getElem?_set_ne (Ne.symm q)]
    exact ⟨rfl, fun d h => ⟨d, h⟩⟩
theorem OwnAt.ne {a p : Addr} {d : D} (h : OwnAt G B H a d) (hp : H p = none) : a ≠ p := by
  rintro rfl
  cases d with
  | lst ds => obtain ⟨vs, w, _⟩ := h; rw [hp] at w; cases w
  | dct ds => obtain ⟨vs, w, _⟩ := h; rw [hp] at w; cases w
  | obj C ds => obtain ⟨dx, vs, w, _⟩ := h; rw [hp] at w; cases w
  | _ => exact h.elim
theorem OwnAt.there {a : Addr} {d : D} (h : OwnAt G B H a d) : H a ≠ none := fun hp => h.ne hp rfl
theorem Rep.setOwn {i : Nat} {d : D} {p : Addr} (r : Rep G s σ B H) (hi : i < s.length) (hb : B p = none) (h : OwnAt G B H p d) (hn : ¬ OwnS s σ p) : Rep G (s.set i (.own d)) (σ.set i (some (.ref p))) B H := by
  refine ⟨r.ex, by rw [List.length_set, List.length_set]; exact r.len, fun j sl e => ?_, fun j k a h1 h2 => ?_⟩
  · by_cases q : j = i
    · subst q
      rw [List.getElem?_set_self hi] at e; cases e
      exact ⟨p, List.getElem?_set_self (by rw [← r.len]; exact hi), hb, h⟩
    · rw [List.getElem?_set_ne (Ne.symm q)] at e
      rw [List.getElem?_set_ne (Ne.symm q)]
      exact r.slot j sl e
  · rcases owns_set h1 with ⟨q1, _, z1⟩ | ⟨q1, z1⟩
    · rcases owns_set h2 with ⟨q2, _, z2⟩ | ⟨q2, z2⟩
      · rw [q1, q2]
      · cases z1; exact absurd ⟨k, z2⟩ hn
    · rcases owns_set h2 with ⟨q2, _, z2⟩ | ⟨q2, z2⟩
      · cases z2; exact absurd ⟨j, z1⟩ hn
      · exact r.sep j k a z1 z2
theorem GrS.setOwn {i : Nat} {d : D} {p : Addr} (hf : i ∉ fx) (hp : OwnS s σ p ∨ H p = none) : GrS fx s σ B H (s.set i (.own d)) (σ.set i (some (.ref p))) B H := by
  refine ⟨.refl _, fun _ _ h _ => h, fun a h => .inl h, fun _ h => h, fun a ⟨j, h⟩ => ?_, fun j hj => ?_⟩
  · rcases owns_set h with ⟨_, _, z⟩ | ⟨_, z⟩
    · cases z; exact hp
    · exact .inl ⟨j, z⟩
  · have q : j ≠ i := fun e => hf (e ▸ hj)
    rw [List.getElem?_set_ne (Ne.symm q), List.getElem?_set_ne (Ne.symm q)]
    exact ⟨rfl, fun d h => ⟨d, h⟩⟩
def sAsg (i : Nat) (f : M D) : M Fl := bnd f fun d => setS i (.sh d)
def sAsgO (i : Nat) (f : M D) : M Fl := bnd f fun d => setS i (.own d)
theorem sndS_asg {i : Nat} {te : TE} {f : M D} (hf : i ∉ fx) (h : Snd G W (RE G) te f) : SndS G W fx (tAsg te (gName i)) (sAsg i f) :=
  sndS_of (u := fun b Dd σ H => Dd.nx (σ.set i (some b)) H) h fun a s σ B H b H0 rep r _ _ Dd ok _ nn => by
    obtain ⟨hi, e⟩ := setS_ok nn
    exact ok .nx _ _ B H e (.setSh hf) (rep.setSh hi r)
/-- a new list or dict becomes the frame's own -/
theorem sndS_asgO {i : Nat} {te : TE} {f : M D} (hf : i ∉ fx) (h : Snd G W (RF G) te f) : SndS G W fx (tAsg te (gName i)) (sAsgO i f) := fun s σ B H rep Dd ok exc nn => by
  refine h s σ B H rep _ (fun d s1 b B1 H1 e1 g1 r1 q1 => ?_) (fun x s1 dd B1 H1 e1 g1 r1 q1 => exc x s1 σ dd B1 H1 (by simp only [sAsgO, bnd, e1]) g1.st r1 q1) fun e => nn (by simp only [sAsgO, bnd, e])
  obtain ⟨p, rfl, hp, hb, hO⟩ := q1
  have eb : sAsgO i f s = setS i (.own d) s1 := by simp only [sAsgO, bnd, e1]
  obtain ⟨hi, e⟩ := setS_ok (fun z => nn (eb.trans z))
  have hn : ¬ OwnS s1 σ p := fun ⟨j, z⟩ => by
    obtain ⟨⟨d', z1⟩, z2⟩ := g1.pat.owns.1 z
    obtain ⟨a, q1, q2, q3⟩ := rep.slot j _ z1
    rw [z2] at q1; cases q1
    exact q3.ne hp rfl
  refine ok .nx _ _ B1 H1 (eb.trans e) ⟨g1.b, g1.keep, fun a z => (g1.new a z).imp_right .inl, g1.dom, fun a ⟨j, z⟩ => ?_, fun j hj => ?_⟩ (r1.setOwn hi hb hO hn)
  · rcases owns_set z with ⟨_, _, z⟩ | ⟨_, z⟩
    · cases z; exact .inr hp
    · exact .inl (g1.pat.own.1 ⟨j, z⟩)
  · have q : j ≠ i := fun e => hf (e ▸ hj)
    rw [List.getElem?_set_ne (Ne.symm q), List.getElem?_set_ne (Ne.symm q)]
    exact ⟨rfl, fun d h => (g1.pat.2 j).2 ⟨d, h⟩⟩
/-- an own thing is from now on shared -/
def frzS (i : Nat) : M Fl := fun s => match s[i]? with
  | some (.own d) => .ok .nx (s.set i (.sh d))
  | _ => .no
theorem sndS_frz {i : Nat} {t : TS} {f : M Fl} (hf : i ∉ fx) (h : SndS G W fx t f) : SndS G W fx t (sSeq (frzS i) f) := fun s σ B H rep Dd ok exc nn => by
  cases e : s[i]? with
  | none => exact absurd (by simp only [sSeq, bnd, frzS, e]) nn
  | some sl =>
    cases sl with
    | un => exact absurd (by simp only [sSeq, bnd, frzS, e]) nn
    | sh d => exact absurd (by simp only [sSeq, bnd, frzS, e]) nn
    | own d =>
      have eb : sSeq (frzS i) f s = f (s.set i (.sh d)) := by simp only [sSeq, bnd, frzS, e, seqK]
      obtain ⟨a, h1, h2, h3⟩ := rep.slot i _ e
      obtain ⟨o, ho, hr⟩ := h3.freeze h2
      have hi : i < s.length := (List.getElem?_eq_some_iff.mp e).1
      have hσ : σ.set i (some (.ref a)) = σ := by
        refine List.ext_getElem? fun j => ?_
        by_cases q : j = i
        · subst q; rw [List.getElem?_set_self (by rw [← rep.len]; exact hi), h1]
        · rw [List.getElem?_set_ne (Ne.symm q)]
      have hown : ∀ j p, Owns (s.set i (.sh d)) σ j p → Owns s σ j p ∧ j ≠ i := fun j p z => by
        rw [← hσ] at z
        rcases owns_set z with ⟨_, ⟨d', z⟩, _⟩ | ⟨q, z⟩
        · cases z
        · exact ⟨z, q⟩
      have ex : Ex (upd B a o) H := fun c u z => by
        by_cases q : c = a
        · subst q; rw [upd_same] at z; rw [ho]; exact z
        · rw [upd_ne q] at z; exact rep.ex c u z
      have rep1 : Rep G (s.set i (.sh d)) σ (upd B a o) H := by
        refine ⟨ex, by rw [List.length_set]; exact rep.len, fun j sl z => ?_, fun j k p z1 z2 => rep.sep j k p (hown j p z1).1 (hown k p z2).1⟩
        by_cases q : j = i
        · subst q
          rw [List.getElem?_set_self hi] at z; cases z
          exact ⟨_, h1, hr⟩
        · rw [List.getElem?_set_ne (Ne.symm q)] at z
          have w := rep.slot j sl z
          cases sl with
          | un => trivial
          | sh d => obtain ⟨v, q1, q2⟩ := w; exact ⟨v, q1, q2.mono (.new h2)⟩
          | own d' =>
            obtain ⟨b, q1, q2, q3⟩ := w
            refine ⟨b, q1, ?_, q3.mono (.new h2) fun _ z => z⟩
            by_cases k : b = a
            · subst k; exact absurd (rep.sep j i b ⟨⟨d', z⟩, q1⟩ ⟨⟨d, e⟩, h1⟩) q
            · rw [upd_ne k]; exact q2
      have g1 : GrS fx s σ B H (s.set i (.sh d)) σ (upd B a o) H := by
        refine ⟨.new h2, fun _ _ h _ => h, fun c z => ?_, fun _ h => h, fun p ⟨j, z⟩ => .inl ⟨j, (hown j p z).1⟩, fun j hj => ⟨rfl, fun d h => ?_⟩⟩
        · by_cases q : c = a
          · subst q; exact .inr (.inr ⟨i, ⟨d, e⟩, h1⟩)
          · rw [upd_ne q] at z; exact .inl z
        · have q : j ≠ i := fun e => hf (e ▸ hj)
          rw [List.getElem?_set_ne (Ne.symm q)]; exact ⟨d, h⟩
      exact h _ σ _ H rep1 Dd (fun fl s' σ' B' H' z g r => ok fl s' σ' B' H' (eb.trans z) (g1.trans g) r) (fun x s' σ' dd B' H' z g r q => exc x s' σ' dd B' H' (eb.trans z) (g1.trans g) r q) fun z => nn (eb.trans z)
/-- x op= e -/
def sAug (g : D → D → Option D) (i : Nat) (f : M D) : M Fl := bnd (eVar i) fun x => bnd f fun y => bnd (opt (g x y)) fun z => setS i (.sh z)
theorem sndS_aug {i : Nat} {te : TE} {f : M D} {ti : TIp} {g : D → D → Option D} (hf : i ∉ fx) (ho : OpE G ti g) (h : Snd G W (RE G) te f) : SndS G W fx (tAug i te ti) (sAug g i f) := fun s σ B H rep Dd ok exc nn => by
  cases e : s[i]? with
  | none => exact absurd (by simp only [sAug, bnd, eVar, e]) nn
  | some sl =>
    cases sl with
    | un => exact absurd (by simp only [sAug, bnd, eVar, e]) nn
    | own d => exact absurd (by simp only [sAug, bnd, eVar, e]) nn
    | sh x =>
      obtain ⟨v, h1, h2⟩ := rep.slot i _ e
      have e0 : sAug g i f s = bnd f (fun y => bnd (opt (g x y)) fun z => setS i (.sh z)) s := by simp only [sAug, bnd, eVar, e]
      refine ⟨v, h1, ?_⟩
      refine h s σ B H rep _ (fun y s1 b B1 H1 e1 g1 r1 q1 => ?_) (fun x' s1 dd B1 H1 e1 g1 r1 q1 => exc x' s1 σ dd B1 H1 (by rw [e0]; simp only [bnd, e1]) g1.st r1 q1) fun z => nn (by rw [e0]; simp only [bnd, z])
      have e2 : sAug g i f s = bnd (opt (g x y)) (fun z => setS i (.sh z)) s1 := by rw [e0]; simp only [bnd, e1]
      cases ez : g x y with
      | none => exact absurd (by rw [e2]; simp only [bnd, opt, ez]) nn
      | some z =>
        have e3 : sAug g i f s = setS i (.sh z) s1 := by rw [e2]; simp only [bnd, opt, ez]
        obtain ⟨hi, e4⟩ := setS_ok (fun z => nn (e3.trans z))
        refine ho B1 H1 x y v b z r1.ex (RD.toO r1.ex (h2.mono g1.b)) (RD.toO r1.ex q1) ez _ fun w B' H' gn qw => ?_
        refine ok .nx _ _ B' H' (e3.trans e4) ((g1.st.trans gn.gr.st).trans (.setSh hf)) ((gn.rep r1).setSh hi qw)
/-- a, b, .. = a tuple -/
def setSs : List Nat → List D → M Fl
  | [], [] => sNx
  | i :: is, d :: ds => sSeq (setS i (.sh d)) (setSs is ds)
  | _, _ => no
def unpK (is : List Nat) : D → M Fl
  | .tup ds => setSs is ds
  | _ => no
def sUnp (is : List Nat) (f : M D) : M Fl := bnd f (unpK is)
def gNames : List Nat → TGs
  | [] => gNil
  | i :: is => gCons (gName i) (gNames is)
theorem sndS_names : ∀ {is : List Nat} {ds : List D} {vs : List V} {s : Sl} {σ : St} {B H : Hp} {Dn : St → Hp → Prop}, (∀ i ∈ is, i ∉ fx) → Rep G s σ B H → RDs G B ds vs →
    (∀ s' σ', setSs is ds s = .ok .nx s' → GrS fx s σ B H s' σ' B H → Rep G s' σ' B H → Dn σ' H) → setSs is ds s ≠ .no → gNames is vs σ H Dn
  | [], [], vs, s, σ, B, H, Dn, _, rep, r, ok, _ => ⟨r, ok s σ rfl .refl rep⟩
  | [], _ :: _, _, _, _, _, _, _, _, _, _, _, nn => absurd rfl nn
  | _ :: _, [], _, _, _, _, _, _, _, _, _, _, nn => absurd rfl nn
  | i :: is, d :: ds, vs, s, σ, B, H, Dn, hf, rep, ⟨v, r, e, h1, h2⟩, ok, nn => by
    have e0 : ∀ h : i < s.length, setSs (i :: is) (d :: ds) s = setSs is ds (s.set i (.sh d)) := fun h => by simp only [setSs, sSeq, bnd, setS, h, if_true, seqK]
    by_cases hi : i < s.length
    · refine ⟨v, r, e, ?_⟩
      exact sndS_names (fun j hj => hf j (List.mem_cons_of_mem _ hj)) (rep.setSh hi h1) h2 (fun s' σ' z g rr => ok s' σ' ((e0 hi).trans z) ((GrS.setSh (hf i List.mem_cons_self)).trans g) rr) (by rw [← e0 hi]; exact nn)
    · exact absurd (by simp only [setSs, sSeq, bnd, setS, hi, if_false]) nn
theorem setSs_ok : ∀ (is : List Nat) (ds : List D) (s : Sl), setSs is ds s ≠ .no → ∃ s', setSs is ds s = .ok .nx s'
  | [], [], s, _ => ⟨s, rfl⟩
  | [], _ :: _, _, nn => absurd rfl nn
  | _ :: _, [], _, nn => absurd rfl nn
  | i :: is, d :: ds, s, nn => by
    by_cases hi : i < s.length
    · have e0 : setSs (i :: is) (d :: ds) s = setSs is ds (s.set i (.sh d)) := by simp only [setSs, sSeq, bnd, setS, hi, if_true, seqK]
      rw [e0] at nn ⊢
      exact setSs_ok is ds _ nn
    · exact absurd (by simp only [setSs, sSeq, bnd, setS, hi, if_false]) nn
theorem sndS_unp {is : List Nat} {te : TE} {f : M D} (hf : ∀ i ∈ is, i ∉ fx) (h : Snd G W (RE G) te f) : SndS G W fx (tAsg te (gTup G.K is.length (gNames is))) (sUnp is f) :=
  sndS_of (u := fun b Dd σ H => gTup G.K is.length (gNames is) b σ H Dd.nx) h fun a s σ B H b H0 rep r _ _ Dd ok _ nn => by
    cases a with
    | tup ds =>
      obtain ⟨p, vs, rfl, h1, h2⟩ := r
      have hl : is.length = ds.length := by
        have key : ∀ (is : List Nat) (ds : List D) (s : Sl), setSs is ds s ≠ .no → is.length = ds.length := fun is => by
          induction is with
          | nil => intro ds s h; cases ds with
            | nil => rfl
            | cons _ _ => exact absurd rfl h
          | cons i is ih =>
            intro ds s h
            cases ds with
            | nil => exact absurd rfl h
            | cons d ds =>
              by_cases hi : i < s.length
              · have e0 : setSs (i :: is) (d :: ds) s = setSs is ds (s.set i (.sh d)) := by simp only [setSs, sSeq, bnd, setS, hi, if_true, seqK]
                rw [e0] at h
                rw [List.length_cons, List.length_cons, ih ds _ h]
              · exact absurd (by simp only [setSs, sSeq, bnd, setS, hi, if_false]) h
        exact key is ds s nn
      exact ⟨p, vs, rfl, ex_t rep.ex h1, by rw [h2.len, hl], sndS_names hf rep h2 (fun s' σ' z g rr => ok .nx s' σ' B H z g rr) nn⟩
    | _ => exact absurd rfl nn
end
end DL

/-! ## DLe -/
namespace DL
open PySem L2
/-! ### the frame's own things are changed -/
def modOwn {α : Type} (i : Nat) (g : D → Option (α × D)) : M α := fun s => match s[i]? with
  | some (.own x) => match g x with
    | some (a, x') => .ok a (s.set i (.own x'))
    | none => .no
  | _ => .no
section
variable {G : Tb} {W : WX} {fx : List Nat}
theorem owns_set1 {i j : Nat} {x x' : D} {s : Sl} {σ : St} {a : Addr} (e : s[i]? = some (.own x)) : Owns (s.set i (.own x')) σ j a ↔ Owns s σ j a := by
  have hi : i < s.length := (List.getElem?_eq_some_iff.mp e).1
  by_cases q : j = i
  · subst q
    constructor
    · rintro ⟨_, h⟩; exact ⟨⟨x, e⟩, h⟩
    · rintro ⟨_, h⟩; exact ⟨⟨x', List.getElem?_set_self hi⟩, h⟩
  · unfold Owns
    rw [List.getElem?_set_ne (Ne.symm q)]
theorem Rep.mod {i : Nat} {x x' : D} {a : Addr} {o : HO} {s : Sl} {σ : St} {B H : Hp} (r : Rep G s σ B H) (e : s[i]? = some (.own x)) (ea : σ[i]? = some (some (.ref a))) (ha : B a = none) (h : OwnAt G B (upd H a o) a x') :
    Rep G (s.set i (.own x')) σ B (upd H a o) ∧ Gr s σ B H (s.set i (.own x')) B (upd H a o) := by
  have hi : i < s.length := (List.getElem?_eq_some_iff.mp e).1
  have hpat : Pat s (s.set i (.own x')) := by
    refine ⟨List.length_set, fun j => ?_⟩
    by_cases q : j = i
    · subst q; rw [List.getElem?_set_self hi, e]; exact ⟨fun _ => ⟨_, rfl⟩, fun _ => ⟨_, rfl⟩⟩
    · rw [List.getElem?_set_ne (Ne.symm q)]
  have hown : OwnS s σ a := ⟨i, ⟨x, e⟩, ea⟩
  refine ⟨⟨fun p u z => ?_, by rw [List.length_set]; exact r.len, fun j sl z => ?_, fun j k p z1 z2 => r.sep j k p (owns_set1 e |>.1 z1) (owns_set1 e |>.1 z2)⟩, ⟨.refl _, fun p u z n => ?_, fun _ z => .inl z, fun p z => ?_, hpat⟩⟩
  · have q : p ≠ a := fun q => by rw [q, ha] at z; cases z
    rw [upd_ne q]; exact r.ex p u z
  · by_cases q : j = i
    · subst q
      rw [List.getElem?_set_self hi] at z; cases z
      exact ⟨a, ea, ha, h⟩
    · rw [List.getElem?_set_ne (Ne.symm q)] at z
      have w := r.slot j sl z
      cases sl with
      | un => trivial
      | sh d => exact w
      | own d =>
        obtain ⟨b, q1, q2, q3⟩ := w
        have nb : b ≠ a := fun k => by
          subst k
          exact q (r.sep j i b ⟨⟨d, z⟩, q1⟩ ⟨⟨x, e⟩, ea⟩)
        refine ⟨b, q1, q2, ?_⟩
        cases d with
        | lst ds => obtain ⟨vs, w1, w2⟩ := q3; exact ⟨vs, by rw [upd_ne nb]; exact w1, w2⟩
        | dct ds => obtain ⟨vs, w1, w2⟩ := q3; exact ⟨vs, by rw [upd_ne nb]; exact w1, w2⟩
        | obj C ds => obtain ⟨dx, vs, w1, w2⟩ := q3; exact ⟨dx, vs, by rw [upd_ne nb]; exact w1, w2⟩
        | _ => exact q3
  · have q : p ≠ a := fun q => n (q ▸ hown)
    rw [upd_ne q]; exact z
  · by_cases q : p = a
    · rw [q, upd_same]; exact fun k => by cases k
    · rw [upd_ne q]; exact z
/-- the heart of a change: what stood, what the operation makes of it -/
theorem at_mod {α β : Type} {R : RL α β} {i : Nat} {g : D → Option (α × D)} {s : Sl} {σ : St} {B H : Hp} {a : Addr} {t : (β → Hp → Prop) → Prop} (rep : Rep G s σ B H) (ea : σ[i]? = some (some (.ref a)))
    (h : ∀ x y x', s[i]? = some (.own x) → B a = none → OwnAt G B H a x → g x = some (y, x') → ∀ Q : β → Hp → Prop, (∀ b o, OwnAt G B (upd H a o) a x' → R H B (upd H a o) y b → Q b (upd H a o)) → t Q) : At G W R (modOwn i g) s σ B H t := by
  intro Q ok exc nn
  cases e : s[i]? with
  | none => exact absurd (by simp only [modOwn, e]) nn
  | some sl =>
    cases sl with
    | un => exact absurd (by simp only [modOwn, e]) nn
    | sh d => exact absurd (by simp only [modOwn, e]) nn
    | own x =>
      obtain ⟨a', h1, h2, h3⟩ := rep.slot i _ e
      rw [ea] at h1; cases h1
      cases eg : g x with
      | none => exact absurd (by simp only [modOwn, e, eg]) nn
      | some p =>
        obtain ⟨y, x'⟩ := p
        refine h x y x' e h2 h3 eg Q fun b o hO hR => ?_
        obtain ⟨r1, g1⟩ := rep.mod e ea h2 hO
        exact ok y _ b B _ (by simp only [modOwn, e, eg]) g1 r1 hR
/-- what slot i owns is of this kind -/
def ownIs (p : D → Bool) (i : Nat) : M Unit := fun s => match s[i]? with
  | some (.own x) => if p x = true then .ok () s else .no
  | _ => .no
def isL : D → Bool
  | .lst _ => true
  | _ => false
def isDc : D → Bool
  | .dct _ => true
  | _ => false
def isOb (C : Nat) : D → Bool
  | .obj c _ => c == C
  | _ => false
/-- o.m(e): the argument is worked out, then o is changed -/
def eMeth1 {α : Type} (p : D → Bool) (i : Nat) (g : D → D → Option (α × D)) (f : M D) : M α := bnd (ownIs p i) fun _ => bnd f fun d => modOwn i (g d)
def eMeth0 {α : Type} (p : D → Bool) (i : Nat) (g : D → Option (α × D)) : M α := bnd (ownIs p i) fun _ => modOwn i g
theorem at_recv {α β : Type} {R : RL α β} {i : Nat} {p : D → Bool} {k : M α} {s : Sl} {σ : St} {B H : Hp} {t : V → (β → Hp → Prop) → Prop} (rep : Rep G s σ B H)
    (h : ∀ a x, s[i]? = some (.own x) → σ[i]? = some (some (.ref a)) → OwnAt G B H a x → p x = true → At G W R k s σ B H (t (.ref a))) : At G W R (bnd (ownIs p i) fun _ => k) s σ B H (fun Q => tVar i σ H fun x _ => t x Q) := by
  intro Q ok exc nn
  cases e : s[i]? with
  | none => exact absurd (by simp only [bnd, ownIs, e]) nn
  | some sl =>
    cases sl with
    | un => exact absurd (by simp only [bnd, ownIs, e]) nn
    | sh d => exact absurd (by simp only [bnd, ownIs, e]) nn
    | own x =>
      by_cases hp : p x = true
      · obtain ⟨a, h1, h2, h3⟩ := rep.slot i _ e
        have eb : bnd (ownIs p i) (fun _ => k) s = k s := by simp only [bnd, ownIs, e, hp, if_true]
        exact ⟨_, h1, h a x e h1 h3 hp Q (fun a s' b B' H' z => ok a s' b B' H' (eb.trans z)) (fun x s' dd B' H' z => exc x s' dd B' H' (eb.trans z)) fun z => nn (eb.trans z)⟩
      · exact absurd (by simp only [bnd, ownIs, e, if_neg hp]) nn
theorem at_ty {α β : Type} {R : RL α β} {f : M α} {s : Sl} {σ : St} {B H : Hp} {t : (β → Hp → Prop) → Prop} {P : Prop} (hp : P) (h : At G W R f s σ B H t) : At G W R f s σ B H (fun Q => P ∧ t Q) := fun Q ok exc nn => ⟨hp, h Q ok exc nn⟩
theorem OwnAt.isL {B H : Hp} {a : Addr} {x : D} (h : OwnAt G B H a x) (e : isL x = true) : ∃ ds vs, x = .lst ds ∧ H a = some (.lst vs) ∧ RDs G B ds vs := by
  cases x <;> simp only [DL.isL] at e <;> first | exact absurd e (by decide) | skip
  obtain ⟨vs, h1, h2⟩ := h
  exact ⟨_, vs, rfl, h1, h2⟩
theorem OwnAt.isDc {B H : Hp} {a : Addr} {x : D} (h : OwnAt G B H a x) (e : isDc x = true) : ∃ ds vs, x = .dct ds ∧ H a = some (.dK vs) ∧ RDk G B ds vs := by
  cases x <;> simp only [DL.isDc] at e <;> first | exact absurd e (by decide) | skip
  obtain ⟨vs, h1, h2⟩ := h
  exact ⟨_, vs, rfl, h1, h2⟩
def appD (d : D) : D → Option (D × D)
  | .lst ds => if ds.length < sizeLine then some (.non, .lst (ds ++ [d])) else none
  | _ => none
theorem snd_app {i : Nat} {te : TE} {f : M D} (h : Snd G W (RE G) te f) : Snd G W (RE G) (tBM G.K "list" rAppend (tVar i) (tCons te tNil)) (eMeth1 isL i appD f) := fun s σ B H rep =>
  at_recv (R := RE G) (t := fun x Q => tyV G.K "list" x H ∧ (tCons te tNil) σ H fun xs H2 => rAppend x xs H2 Q) rep fun a x e ea hO hp => by
    obtain ⟨ds, vs, rfl, h1, h2⟩ := hO.isL hp
    refine at_ty (.inl ⟨rfl, vs, .of h1⟩) ?_
    refine At.seq (R2 := RE G) (t2 := fun y H1 Q => rAppend (.ref a) [y] H1 Q) (h s σ B H rep) fun d s1 v B1 H1 e1 g1 r1 (q1 : RD G B1 d v) => ?_
    refine at_mod r1 ea fun x y x' ex hb hO1 eg Q ok => ?_
    unfold appD at eg
    split at eg
    · split at eg
      · rename_i ds hz
        cases eg
        obtain ⟨ws, w1, w2⟩ := hO1
        exact ⟨a, ws, v, rfl, rfl, w1, by rw [w2.len]; exact hz, ok .non _ ⟨_, upd_same, w2.append (.one q1)⟩ rfl⟩
      · cases eg
    · cases eg
def popD : D → Option (D × D)
  | .lst ds => (ds[ds.length - 1]?).map fun d => (d, .lst ds.dropLast)
  | _ => none
theorem snd_pop {i : Nat} : Snd G W (RE G) (tBM0 G.K "list" rPop (tVar i)) (eMeth0 isL i popD) := fun s σ B H rep =>
  at_recv (R := RE G) (t := fun x Q => tyV G.K "list" x H ∧ rPop x [] H Q) rep fun a x e ea hO hp => by
    obtain ⟨ds, vs, rfl, h1, h2⟩ := hO.isL hp
    refine at_ty (.inl ⟨rfl, vs, .of h1⟩) ?_
    refine at_mod rep ea fun x y x' ex hb hO1 eg Q ok => ?_
    unfold popD at eg
    split at eg
    · obtain ⟨d, e1, e2⟩ := Option.map_eq_some_iff.mp eg
      cases e2
      obtain ⟨ws, w1, w2⟩ := hO1
      obtain ⟨v, w3, w4⟩ := w2.get e1
      refine ⟨a, ws, v, rfl, rfl, w1, by rw [w2.len]; exact w3, ok v _ ⟨_, upd_same, w2.dropLast⟩ w4⟩
    · cases eg
def popAtD : D → D → Option (D × D)
  | .int i, .lst ds => if -(2 ^ 63) ≤ i ∧ i < 2 ^ 63 then (seqIndex? i ds.length).bind fun k => (ds[k]?).map fun d => (d, .lst (ds.eraseIdx k)) else none
  | _, _ => none
theorem snd_popAt {i : Nat} {te : TE} {f : M D} (h : Snd G W (RE G) te f) : Snd G W (RE G) (tBM G.K "list" rPopAt (tVar i) (tCons te tNil)) (eMeth1 isL i popAtD f) := fun s σ B H rep =>
  at_recv (R := RE G) (t := fun x Q => tyV G.K "list" x H ∧ (tCons te tNil) σ H fun xs H2 => rPopAt x xs H2 Q) rep fun a x e ea hO hp => by
    obtain ⟨ds, vs, rfl, h1, h2⟩ := hO.isL hp
    refine at_ty (.inl ⟨rfl, vs, .of h1⟩) ?_
    refine At.seq (R2 := RE G) (t2 := fun y H1 Q => rPopAt (.ref a) [y] H1 Q) (h s σ B H rep) fun d s1 v B1 H1 e1 g1 r1 (q1 : RD G B1 d v) => ?_
    refine at_mod r1 ea fun x y x' ex hb hO1 eg Q ok => ?_
    unfold popAtD at eg
    split at eg
    · split at eg
      · rename_i k ds hz
        obtain ⟨j, e2, e3⟩ := Option.bind_eq_some_iff.mp eg
        obtain ⟨d, e4, e5⟩ := Option.map_eq_some_iff.mp e3
        cases e5
        obtain ⟨ws, w1, w2⟩ := hO1
        obtain ⟨u, w3, w4⟩ := w2.get e4
        exact ⟨a, ws, k, j, u, rfl, by rw [show v = _ from q1], w1, hz.1, hz.2, by rw [w2.len]; exact e2, w3, ok u _ ⟨_, upd_same, w2.eraseIdx j⟩ w4⟩
      · cases eg
    · cases eg
/-! ### o[k] = e -/
def setLD (d k : D) : D → Option (D × D)
  | .lst ds => match k with
    | .int i => (ixN ds.length i).map fun j => (.non, .lst (ds.set j d))
    | _ => none
  | _ => none
def sSetL (i : Nat) (fk fe : M D) : M Fl := bnd fe fun d => bnd (bnd (ownIs isL i) fun _ => bnd fk fun k => modOwn i (setLD d k)) fun _ => sNx
theorem at_set {s : Sl} {σ : St} {B H : Hp} {i : Nat} {tk : TE} {fk : M D} {d : D} {v : V} (rep : Rep G s σ B H) (hk : Snd G W (RE G) tk fk) (hd : RD G B d v) :
    At G W (fun _ _ _ _ (_ : Unit) => True) (bnd (ownIs isL i) fun _ => bnd fk fun k => modOwn i (setLD d k)) s σ B H (fun Q => tVar i σ H fun o H1 => tk σ H1 fun k H2 => rSetL o k v H2 fun H3 => Q () H3) :=
  at_recv (R := fun _ _ _ _ (_ : Unit) => True) (t := fun x Q => tk σ H fun k H2 => rSetL x k v H2 fun H3 => Q () H3) rep fun a x e ea hO hp => by
    letI : Back (fun (_ _ _ : Hp) (_ : D) (_ : Unit) => True) := ⟨fun _ h => h⟩
    refine At.seq (R2 := fun _ _ _ (_ : D) (_ : Unit) => True) (t2 := fun k H1 Q => rSetL (.ref a) k v H1 fun H3 => Q () H3) (hk s σ B H rep) fun kd s1 kv B1 H1 e1 g1 r1 (q1 : RD G B1 kd kv) => ?_
    refine at_mod r1 ea fun x y x' ex hb hO1 eg Q ok => ?_
    unfold setLD at eg
    split at eg
    · rename_i ds
      cases kd with
      | int k =>
        obtain ⟨j, e2, e3⟩ := Option.map_eq_some_iff.mp eg
        cases e3
        obtain ⟨ws, w1, w2⟩ := hO1
        exact ⟨a, ws, k, j, rfl, q1, w1, by rw [w2.len]; exact e2, ok () _ ⟨_, upd_same, w2.set j (hd.mono g1.b)⟩ trivial⟩
      | _ => cases eg
    · cases eg
theorem sndS_setL {i : Nat} {tk te : TE} {fk fe : M D} (hk : Snd G W (RE G) tk fk) (he : Snd G W (RE G) te fe) : SndS G W fx (tAsg te (gSub (tVar i) tk rSetL)) (sSetL i fk fe) :=
  sndS_of (u := fun b Dd σ H => gSub (tVar i) tk rSetL b σ H Dd.nx) he fun d s σ B H b H0 rep r _ _ Dd ok exc nn => by
    refine at_set (i := i) rep hk r (fun _ H3 => Dd.nx σ H3) (fun a s1 _ B1 H1 e1 g1 r1 _ => ?_) (fun x s1 dd B1 H1 e1 g1 r1 q => exc x s1 σ dd B1 H1 (by simp only [bnd, sNx, ret] at e1 ⊢; rw [e1]) g1.st r1 q) fun e => nn (by simp only [bnd] at e ⊢; rw [e])
    exact ok .nx s1 σ B1 H1 (by simp only [bnd, sNx, ret] at e1 ⊢; rw [e1]) g1.st r1
end
end DL

/-! ## DLf -/
namespace DL
open PySem L2
/-! ### what is walked -/
structure WalkD (G : Tb) (J : It) (B : Hp) (ds : List D) : Prop where
  go : ∀ i B2 H2, Ex B B2 → Ex B2 H2 → i < ds.length → J.go i H2
  stop : ∀ B2 H2, Ex B B2 → Ex B2 H2 → J.stop ds.length H2
  yl : ∀ i B2 H2 x H3, Ex B B2 → Ex B2 H2 → i < ds.length → J.yld i H2 x H3 → ∃ B3 d, GrN B2 H2 B3 H3 ∧ ds[i]? = some d ∧ RD G B3 d x
def RI (G : Tb) : RL (List D) It := fun _ B' _ ds J => WalkD G J B' ds
instance {G : Tb} : Back (RI G) := ⟨fun _ h => h⟩
/-- targets: a name, a tuple of names -/
structure SndTG (G : Tb) (g : TG) (tg : D → M Fl) (ns : List Nat) : Prop where
  form : ∀ d s, tg d s ≠ .no → ∃ s', tg d s = .ok .nx s'
  run : ∀ d v s σ B H (Dn : St → Hp → Prop), Rep G s σ B H → RD G B d v → (∀ s' σ', tg d s = .ok .nx s' → (∀ fx : List Nat, (∀ i ∈ ns, i ∉ fx) → GrS fx s σ B H s' σ' B H) → Rep G s' σ' B H → σ'.length = σ.length → (∀ j, j ∉ ns → σ'[j]? = σ[j]?) → (∀ j : Nat, j ∉ ns → s'[j]? = s[j]?) → Dn σ' H) → tg d s ≠ .no → g v σ H Dn
def tgN (i : Nat) : D → M Fl := fun d => setS i (.sh d)
section
variable {G : Tb} {W : WX} {fx : List Nat}
theorem tg_name {i : Nat} : SndTG G (gName i) (tgN i) [i] where
  form := fun d s h => ⟨_, (setS_ok h).2⟩
  run := fun d v s σ B H Dn rep r k nn => by
    obtain ⟨hi, e⟩ := setS_ok nn
    refine k _ _ e (fun fx hf => .setSh (hf i List.mem_cons_self)) (rep.setSh hi r) List.length_set (fun j hj => ?_) fun j hj => ?_
    · rw [List.getElem?_set_ne]; exact fun e => hj (by rw [e]; exact List.mem_cons_self)
    · rw [List.getElem?_set_ne]; exact fun e => hj (by rw [e]; exact List.mem_cons_self)
theorem names_run : ∀ {is : List Nat} {ds : List D} {vs : List V} {s : Sl} {σ : St} {B H : Hp} {Dn : St → Hp → Prop}, Rep G s σ B H → RDs G B ds vs →
    (∀ s' σ', setSs is ds s = .ok .nx s' → (∀ fx : List Nat, (∀ i ∈ is, i ∉ fx) → GrS fx s σ B H s' σ' B H) → Rep G s' σ' B H → σ'.length = σ.length → (∀ j, j ∉ is → σ'[j]? = σ[j]?) → (∀ j : Nat, j ∉ is → s'[j]? = s[j]?) → Dn σ' H) → setSs is ds s ≠ .no → gNames is vs σ H Dn ∧ is.length = ds.length
  | [], [], vs, s, σ, B, H, Dn, rep, r, ok, _ => ⟨⟨r, ok s σ rfl (fun _ _ => .refl) rep rfl (fun _ _ => rfl) fun _ _ => rfl⟩, rfl⟩
  | [], _ :: _, _, _, _, _, _, _, _, _, _, nn => absurd rfl nn
  | _ :: _, [], _, _, _, _, _, _, _, _, _, nn => absurd rfl nn
  | i :: is, d :: ds, vs, s, σ, B, H, Dn, rep, ⟨v, r, e, h1, h2⟩, ok, nn => by
    have e0 : ∀ h : i < s.length, setSs (i :: is) (d :: ds) s = setSs is ds (s.set i (.sh d)) := fun h => by simp only [setSs, sSeq, bnd, setS, h, if_true, seqK]
    by_cases hi : i < s.length
    · have key := names_run (Dn := Dn) (rep.setSh hi h1) h2 (fun s' σ' z g rr hl h3 h4 => ok s' σ' ((e0 hi).trans z) (fun fx hf => (GrS.setSh (hf i List.mem_cons_self)).trans (g fx fun j hj => hf j (List.mem_cons_of_mem _ hj))) rr (by rw [hl, List.length_set]) (fun j hj => by
          rw [h3 j fun z => hj (List.mem_cons_of_mem _ z), List.getElem?_set_ne]; exact fun e => hj (by rw [e]; exact List.mem_cons_self)) fun j hj => by
          rw [h4 j fun z => hj (List.mem_cons_of_mem _ z), List.getElem?_set_ne]; exact fun e => hj (by rw [e]; exact List.mem_cons_self)) (by rw [← e0 hi]; exact nn)
      exact ⟨⟨v, r, e, key.1⟩, by rw [List.length_cons, List.length_cons, key.2]⟩
    · exact absurd (by simp only [setSs, sSeq, bnd, setS, hi, if_false]) nn
theorem tg_tup {is : List Nat} : SndTG G (gTup G.K is.length (gNames is)) (unpK is) is where
  form := fun d s h => by
    cases d with
    | tup ds => exact setSs_ok is ds s h
    | _ => exact absurd rfl h
  run := fun d v s σ B H Dn rep r k nn => by
    cases d with
    | tup ds =>
      obtain ⟨p, vs, rfl, h1, h2⟩ := r
      have key := names_run (Dn := Dn) rep h2 (fun s' σ' z g rr hl h3 h4 => k s' σ' z g rr hl h3 h4) nn
      exact ⟨p, vs, rfl, ex_t rep.ex h1, by rw [h2.len, key.2], key.1⟩
    | _ => exact absurd rfl nn

/-! ### slots are forgotten -/
def clr : List Nat → Sl → Sl
  | [], s => s
  | v :: vs, s => (clr vs s).set v .un
def sClr (vs : List Nat) : M Fl := fun s => .ok .nx (clr vs s)
theorem clr_len (s : Sl) : ∀ vs, (clr vs s).length = s.length
  | [] => rfl
  | v :: vs => by rw [clr, List.length_set, clr_len s vs]
theorem clr_get {s : Sl} {j : Nat} : ∀ {vs : List Nat}, (j ∈ vs → j < s.length → (clr vs s)[j]? = some .un) ∧ (j ∉ vs → (clr vs s)[j]? = s[j]?)
  | [] => ⟨(fun h => absurd h (by simp)), fun _ => rfl⟩
  | v :: vs => by
    obtain ⟨h1, h2⟩ := clr_get (s := s) (j := j) (vs := vs)
    refine ⟨fun h hl => ?_, fun h => ?_⟩
    · by_cases q : j = v
      · subst q; rw [clr, List.getElem?_set_self (by rw [clr_len]; exact hl)]
      · rw [clr, List.getElem?_set_ne (Ne.symm q)]; exact h1 ((List.mem_cons.mp h).resolve_left q) hl
    · rw [clr, List.getElem?_set_ne (fun e => h (by rw [e]; exact List.mem_cons_self))]
      exact h2 fun z => h (List.mem_cons_of_mem _ z)
theorem clr_own {s : Sl} {j : Nat} {vs : List Nat} {sl : Slot} (h : (clr vs s)[j]? = some sl) : sl = .un ∨ (j ∉ vs ∧ s[j]? = some sl) := by
  have hl : j < s.length := by have := (List.getElem?_eq_some_iff.mp h).1; rwa [clr_len] at this
  by_cases q : j ∈ vs
  · rw [clr_get.1 q hl] at h; cases h; exact .inl rfl
  · rw [clr_get.2 q] at h; exact .inr ⟨q, h⟩
theorem owns_clr {s : Sl} {σ : St} {vs : List Nat} {i : Nat} {a : Addr} (h : Owns (clr vs s) σ i a) : Owns s σ i a ∧ i ∉ vs := by
  obtain ⟨⟨d, h1⟩, h2⟩ := h
  rcases clr_own h1 with z | ⟨z1, z2⟩
  · cases z
  · exact ⟨⟨⟨d, z2⟩, h2⟩, z1⟩
theorem Rep.clrd {s : Sl} {σ : St} {B H : Hp} (r : Rep G s σ B H) (vs : List Nat) : Rep G (clr vs s) σ B H :=
  ⟨r.ex, by rw [clr_len]; exact r.len, fun i sl e => by
    rcases clr_own e with z | ⟨_, z⟩
    · rw [z]; trivial
    · exact r.slot i sl z, fun i j a h1 h2 => r.sep i j a (owns_clr h1).1 (owns_clr h2).1⟩
theorem GrS.clrd {s : Sl} {σ : St} {B H : Hp} {vs : List Nat} (hf : ∀ i ∈ vs, i ∉ fx) : GrS fx s σ B H (clr vs s) σ B H :=
  ⟨.refl _, fun _ _ h _ => h, fun a h => .inl h, fun _ h => h, fun a ⟨j, h⟩ => .inl ⟨j, (owns_clr h).1⟩, fun j hj => ⟨rfl, fun d h => ⟨d, by rw [clr_get.2 fun z => hf j z hj]; exact h⟩⟩⟩

/-! ### for -/
def forK (k : M Fl) (fg : List Nat) : Fl → M Fl
  | .nx => fun s => k (clr fg s)
  | .ct => fun s => k (clr fg s)
  | .bk => sNx
  | .rt d => ret (.rt d)
def forL (tg : D → M Fl) (fg : List Nat) (body : M Fl) : List D → M Fl
  | [] => sNx
  | d :: ds => bnd (sSeq (tg d) body) (forK (forL tg fg body ds) fg)
def sFor (fi : M (List D)) (tg : D → M Fl) (fg : List Nat) (body : M Fl) : M Fl := bnd fi (forL tg fg body)
theorem sndS_for {wi : TI} {fi : M (List D)} {g : TG} {tg : D → M Fl} {ns fg : List Nat} {tb : TS} {body : M Fl} (h : Snd G W (RI G) wi fi) (hg : SndTG G g tg ns) (hns : ∀ i ∈ ns, i ∉ fx) (hfg : ∀ i ∈ fg, i ∉ fx) (hb : SndS G W fx tb body) :
    SndS G W fx (tFor wi g tb) (sFor fi tg fg body) := fun s σ B H rep Dd ok exc nn => by
  refine h s σ B H rep _ (fun ds s1 J B1 H1 e1 g1 r1 q1 => ?_) (fun x s1 dd B1 H1 e1 g1 r1 q1 => exc x s1 σ dd B1 H1 (by simp only [sFor, bnd, e1]) g1.st r1 q1) fun e => nn (by simp only [sFor, bnd, e])
  have eb : sFor fi tg fg body s = forL tg fg body ds s1 := by simp only [sFor, bnd, e1]
  refine ⟨fun i m σ' H' => ∃ s' B', m = ds.length - i ∧ i ≤ ds.length ∧ Rep G s' σ' B' H' ∧ GrS fx s σ B H s' σ' B' H' ∧ Ex B1 B' ∧ forL tg fg body (ds.drop i) s' = sFor fi tg fg body s, ⟨ds.length, s1, B1, by simp, Nat.zero_le _, r1, g1.st, .refl _, by rw [List.drop_zero, eb]⟩, ?_⟩
  rintro i m σ' H' ⟨s', B', rfl, hi, rep', gr', eB, run⟩
  by_cases hlt : i < ds.length
  · refine .inr ⟨q1.go i B' H' eB rep'.ex hlt, _, fun σ2 H2 z => z, fun x H3 hy => ?_⟩
    obtain ⟨B3, d, gn, hd, rd⟩ := q1.yl i B' H' x H3 eB rep'.ex hlt hy
    have hdrop : ds.drop i = d :: ds.drop (i + 1) := by
      rw [List.drop_eq_getElem_cons hlt]
      have : ds[i] = d := by rw [List.getElem?_eq_getElem hlt] at hd; exact Option.some.inj hd
      rw [this]
    rw [hdrop] at run
    have rep3 := gn.rep rep'
    have gr3 := gr'.trans (gn.gr (s := s') (σ := σ')).st
    have n0 : tg d s' ≠ .no := fun z => nn (by rw [← run]; simp only [forL, bnd, sSeq, z])
    refine hg.run d x s' σ' B3 H3 _ rep3 rd (fun s2 σ2 e2 g2 r2 _ _ _ => ?_) n0
    have e3 : forL tg fg body (d :: ds.drop (i + 1)) s' = bnd body (forK (forL tg fg body (ds.drop (i + 1))) fg) s2 := by simp only [forL, bnd, sSeq, e2, seqK]
    have g23 := gr3.trans (g2 fx hns)
    refine hb s2 σ2 B3 H3 r2 _ (fun fl s4 σ4 B4 H4 e4 g4 r4 => ?_) (fun y s4 σ4 dd B4 H4 e4 g4 r4 q4 => exc y s4 σ4 dd B4 H4 (by rw [← run, e3]; simp only [bnd, e4]) (g23.trans g4) r4 q4) fun z => nn (by rw [← run, e3]; simp only [bnd, z])
    have e5 : sFor fi tg fg body s = forK (forL tg fg body (ds.drop (i + 1))) fg fl s4 := by rw [← run, e3]; simp only [bnd, e4]
    have nxt : sFor fi tg fg body s = forL tg fg body (ds.drop (i + 1)) (clr fg s4) → ∃ m', m' < ds.length - i ∧ ∃ s' B', m' = ds.length - (i + 1) ∧ i + 1 ≤ ds.length ∧ Rep G s' σ4 B' H4 ∧ GrS fx s σ B H s' σ4 B' H4 ∧ Ex B1 B' ∧ forL tg fg body (ds.drop (i + 1)) s' = sFor fi tg fg body s := fun e =>
      ⟨_, by omega, clr fg s4, B4, rfl, hlt, r4.clrd fg, (g23.trans g4).trans (.clrd hfg), (eB.trans gn.b).trans (show Ex B3 B4 from g4.b), e.symm⟩
    cases fl with
    | nx => exact nxt e5
    | ct => exact nxt e5
    | bk => exact ok .nx s4 σ4 B4 H4 e5 (g23.trans g4) r4
    | rt d => exact ok (.rt d) s4 σ4 B4 H4 e5 (g23.trans g4) r4
  · have hz : i = ds.length := by omega
    subst hz
    refine .inl ⟨q1.stop B' H' eB rep'.ex, ?_⟩
    rw [List.drop_length] at run
    exact ok .nx s' σ' B' H' run.symm gr' rep'
/-! ### while -/
def whN (c : M Bool) (fg : List Nat) (body : M Fl) : Nat → M Fl
  | 0 => no
  | n + 1 => bnd c fun k => if k = true then bnd body (forK (whN c fg body n) fg) else sNx
theorem sndS_while {c : TT} {cc : M Bool} {fg : List Nat} {tb : TS} {body : M Fl} (n : Nat) (hc : Snd G W RT c cc) (hfg : ∀ i ∈ fg, i ∉ fx) (hb : SndS G W fx tb body) : SndS G W fx (tWhile c tb) (whN cc fg body n) := fun s σ B H rep Dd ok exc nn => by
  refine ⟨fun m σ' H' => ∃ s' B', Rep G s' σ' B' H' ∧ GrS fx s σ B H s' σ' B' H' ∧ whN cc fg body m s' = whN cc fg body n s, ⟨n, s, B, rep, .refl, rfl⟩, ?_⟩
  rintro m σ' H' ⟨s', B', rep', gr', run⟩
  cases m with
  | zero => exact absurd run.symm nn
  | succ m =>
    refine hc s' σ' B' H' rep' _ (fun b s1 b' B1 H1 e1 g1 r1 (q1 : b = b') => ?_) (fun x s1 dd B1 H1 e1 g1 r1 q1 => exc x s1 σ' dd B1 H1 (by rw [← run]; simp only [whN, bnd, e1]) (gr'.trans g1.st) r1 q1) fun z => nn (by rw [← run]; simp only [whN, bnd, z])
    subst q1
    have e2 : whN cc fg body (m + 1) s' = (if b = true then bnd body (forK (whN cc fg body m) fg) else sNx) s1 := by simp only [whN, bnd, e1]
    have g01 := gr'.trans g1.st
    cases b with
    | false =>
      exact ok .nx s1 σ' B1 H1 (by rw [← run, e2]; rfl) g01 r1
    | true =>
      have e3 : whN cc fg body n s = bnd body (forK (whN cc fg body m) fg) s1 := by rw [← run, e2]; rfl
      show ∃ N : St → Hp → Prop, _
      refine ⟨_, fun σ2 H2 z => z, ?_⟩
      refine hb s1 σ' B1 H1 r1 _ (fun fl s4 σ4 B4 H4 e4 g4 r4 => ?_) (fun y s4 σ4 dd B4 H4 e4 g4 r4 q4 => exc y s4 σ4 dd B4 H4 (by rw [e3]; simp only [bnd, e4]) (g01.trans g4) r4 q4) fun z => nn (by rw [e3]; simp only [bnd, z])
      have e5 : whN cc fg body n s = forK (whN cc fg body m) fg fl s4 := by rw [e3]; simp only [bnd, e4]
      have nxt : whN cc fg body n s = whN cc fg body m (clr fg s4) → ∃ m', m' < m + 1 ∧ ∃ s' B', Rep G s' σ4 B' H4 ∧ GrS fx s σ B H s' σ4 B' H4 ∧ whN cc fg body m' s' = whN cc fg body n s := fun e =>
        ⟨m, by omega, clr fg s4, B4, r4.clrd fg, (g01.trans g4).trans (.clrd hfg), e.symm⟩
      cases fl with
      | nx => exact nxt e5
      | ct => exact nxt e5
      | bk => exact ok .nx s4 σ4 B4 H4 e5 (g01.trans g4) r4
      | rt d => exact ok (.rt d) s4 σ4 B4 H4 e5 (g01.trans g4) r4
end
end DL

/-! ## DLg -/
namespace DL
open PySem L2
theorem wipe_get {σ : St} {j : Nat} : ∀ {vs : List Nat}, (j ∈ vs → j < σ.length → (wipe σ vs)[j]? = some none) ∧ (j ∉ vs → (wipe σ vs)[j]? = σ[j]?)
  | [] => ⟨(fun h => absurd h (by simp)), fun _ => rfl⟩
  | v :: vs => by
    obtain ⟨h1, h2⟩ := wipe_get (σ := σ) (j := j) (vs := vs)
    refine ⟨fun h hl => ?_, fun h => ?_⟩
    · by_cases q : j = v
      · subst q; rw [wipe, List.getElem?_set_self (by rw [wipe_length]; exact hl)]
      · rw [wipe, List.getElem?_set_ne (Ne.symm q)]; exact h1 ((List.mem_cons.mp h).resolve_left q) hl
    · rw [wipe, List.getElem?_set_ne (fun e => h (by rw [e]; exact List.mem_cons_self))]
      exact h2 fun z => h (List.mem_cons_of_mem _ z)
theorem wipe_eq {σ σ' : St} {vs : List Nat} (hl : σ'.length = σ.length) (h : ∀ j, j ∉ vs → σ'[j]? = σ[j]?) : wipe σ' vs = wipe σ vs := by
  refine List.ext_getElem? fun j => ?_
  by_cases q : j ∈ vs
  · by_cases z : j < σ.length
    · rw [wipe_get.1 q z, wipe_get.1 q (by omega)]
    · rw [List.getElem?_eq_none (by rw [wipe_length]; omega), List.getElem?_eq_none (by rw [wipe_length]; omega)]
  · rw [wipe_get.2 q, wipe_get.2 q, h j q]
def W0 : WX := fun _ _ _ _ => False
/-- the slots vs as they were -/
def rst (s : Sl) : List Nat → Sl → Sl
  | [], t => t
  | v :: vs, t => (rst s vs t).set v (s.getD v .un)
theorem rst_len (s t : Sl) : ∀ vs, (rst s vs t).length = t.length
  | [] => rfl
  | v :: vs => by rw [rst, List.length_set, rst_len s t vs]
theorem rst_get {s t : Sl} {j : Nat} : ∀ {vs : List Nat}, (j ∈ vs → j < t.length → (rst s vs t)[j]? = some (s.getD j .un)) ∧ (j ∉ vs → (rst s vs t)[j]? = t[j]?)
  | [] => ⟨(fun h => absurd h (by simp)), fun _ => rfl⟩
  | v :: vs => by
    obtain ⟨h1, h2⟩ := rst_get (s := s) (t := t) (j := j) (vs := vs)
    refine ⟨fun h hl => ?_, fun h => ?_⟩
    · by_cases q : j = v
      · subst q; rw [rst, List.getElem?_set_self (by rw [rst_len]; exact hl)]
      · rw [rst, List.getElem?_set_ne (Ne.symm q)]; exact h1 ((List.mem_cons.mp h).resolve_left q) hl
    · rw [rst, List.getElem?_set_ne (fun e => h (by rw [e]; exact List.mem_cons_self))]
      exact h2 fun z => h (List.mem_cons_of_mem _ z)
def notOwn : Slot → Bool
  | .own _ => false
  | _ => true
/-- within a comprehension's block: the names vs are its own; what is raised there isn't carried -/
def unb {α : Type} (s : Sl) (vs : List Nat) : Res α → Res α
  | .ok a s' => .ok a (rst s vs s')
  | _ => .no
def blk {α : Type} (vs : List Nat) (m : M α) : M α := fun s => if vs.all (fun v => notOwn (s.getD v .un)) = true then unb s vs (m (clr vs s)) else .no
/-- the turns: what a turn makes of the new thing -/
def compF (tg : D → M Fl) (ct : M Bool) (act : D → M D) (vs : List Nat) : List D → D → M D
  | [], x => ret x
  | d :: ds, x => bnd (tg d) fun _ => bnd ct fun k => if k = true then bnd (act x) fun y => bnd (sClr vs) fun _ => compF tg ct act vs ds y
    else bnd (sClr vs) fun _ => compF tg ct act vs ds x
def eCompG (x0 : D) (fi : M (List D)) (tg : D → M Fl) (ct : M Bool) (act : D → M D) (vs : List Nat) : M D := bnd fi fun ds => blk vs (compF tg ct act vs ds x0)
def pushD (y : D) : D → Option D
  | .lst acc => if acc.length < sizeLine then some (.lst (acc ++ [y])) else none
  | _ => none
def act1 (fe : M D) (x : D) : M D := bnd fe fun y => opt (pushD y x)
/-- [e for .. in .. if ..] -/
def eComp (fi : M (List D)) (tg : D → M Fl) (ct : M Bool) (fe : M D) (vs : List Nat) : M D := eCompG (.lst []) fi tg ct (act1 fe) vs
/-- [e for .. in .. if .. for .. in .. if ..] -/
def noOwn (vs : List Nat) : M Unit := fun s => if vs.all (fun v => notOwn (s.getD v .un)) = true then .ok () s else .no
def act2 (fi1 : M (List D)) (tg1 : D → M Fl) (ct1 : M Bool) (fe : M D) (vs1 : List Nat) (x : D) : M D := bnd fi1 fun ds => bnd (noOwn vs1) fun _ => bnd (sClr vs1) fun _ => bnd (compF tg1 ct1 (act1 fe) vs1 ds x) fun y => bnd (sClr vs1) fun _ => ret y
def eComp2 (fi : M (List D)) (tg : D → M Fl) (ct : M Bool) (fi1 : M (List D)) (tg1 : D → M Fl) (ct1 : M Bool) (fe : M D) (vs vs1 : List Nat) : M D := eCompG (.lst []) fi tg ct (act2 fi1 tg1 ct1 fe vs1) vs
/-! dicts -/
def keyD : D → Option Key
  | .int i => some (.inl i)
  | .str x => some (.inr x)
  | _ => none
def getA (kvs : List (Key × D)) (k : Key) : Option D := (kvs.find? fun kv => decide (kv.1 = k)).map (·.2)
def putA (kvs : List (Key × D)) (k : Key) (v : D) : List (Key × D) :=
  if (kvs.any fun kv => decide (kv.1 = k)) = true then kvs.map (fun kv => if kv.1 = k then (kv.1, v) else kv) else kvs ++ [(k, v)]
def putD (k v : D) : D → Option D
  | .dct kvs => (keyD k).bind fun c => if kvs.length < sizeLine then some (.dct (putA kvs c v)) else none
  | _ => none
def actD (fk fv : M D) (x : D) : M D := bnd fk fun k => bnd fv fun v => opt (putD k v x)
def eCompD (fi : M (List D)) (tg : D → M Fl) (ct : M Bool) (fk fv : M D) (vs : List Nat) : M D := eCompG (.dct []) fi tg ct (actD fk fv) vs
section
variable {G : Tb} {W : WX} {fx : List Nat}
theorem bnd_ok {α β : Type} {m : M α} {k : α → M β} {s s2 : Sl} {b : β} (h : bnd m k s = .ok b s2) : ∃ a s1, m s = .ok a s1 ∧ k a s1 = .ok b s2 := by
  unfold bnd at h
  split at h
  · rename_i a s1 e; exact ⟨a, s1, e, h⟩
  · cases h
  · cases h
/-- an object beside: neither in the base nor own -/
theorem Rep.aside {s : Sl} {σ : St} {B H : Hp} {p : Addr} {o : HO} (r : Rep G s σ B H) (hb : B p = none) (hn : ¬ OwnS s σ p) : Rep G s σ B (upd H p o) := by
  refine ⟨fun a u z => ?_, r.len, fun i sl e => ?_, r.sep⟩
  · rw [upd_ne (ne_of_none z hb)]; exact r.ex a u z
  · have q := r.slot i sl e
    cases sl with
    | un => trivial
    | sh d => exact q
    | own d =>
      obtain ⟨a, h1, h2, h3⟩ := q
      have ne : a ≠ p := fun z => by subst z; exact hn ⟨i, ⟨d, e⟩, h1⟩
      refine ⟨a, h1, h2, ?_⟩
      cases d with
      | lst ds => obtain ⟨vs, w1, w2⟩ := h3; exact ⟨vs, by rw [upd_ne ne]; exact w1, w2⟩
      | dct ds => obtain ⟨vs, w1, w2⟩ := h3; exact ⟨vs, by rw [upd_ne ne]; exact w1, w2⟩
      | obj C ds => obtain ⟨dx, vs, w1, w2⟩ := h3; exact ⟨dx, vs, by rw [upd_ne ne]; exact w1, w2⟩
      | _ => exact h3
theorem Rep.nown {s : Sl} {σ : St} {B H : Hp} {p : Addr} (r : Rep G s σ B H) (h : H p = none) : ¬ OwnS s σ p := fun ⟨i, ⟨d, e⟩, h1⟩ => by
  obtain ⟨a, q1, q2, q3⟩ := r.slot i _ e
  rw [h1] at q1; cases q1
  exact q3.ne h rfl
/-- the slots of the block: wiped -/
theorem Rep.wiped {s2 : Sl} {σ σ2 : St} {B H : Hp} {vs : List Nat} (r : Rep G s2 σ2 B H) (hl : σ2.length = σ.length) (h : ∀ j, j ∉ vs → σ2[j]? = σ[j]?) : Rep G (clr vs s2) (wipe σ vs) B H := by
  have ow : ∀ i a, Owns (clr vs s2) (wipe σ vs) i a → Owns s2 σ2 i a ∧ i ∉ vs := fun i a ⟨⟨d, h1⟩, h2⟩ => by
    rcases clr_own h1 with z | ⟨z1, z2⟩
    · cases z
    · rw [wipe_get.2 z1, ← h i z1] at h2
      exact ⟨⟨⟨d, z2⟩, h2⟩, z1⟩
  refine ⟨r.ex, by rw [clr_len, wipe_length, r.len, hl], fun i sl e => ?_, fun i j a h1 h2 => r.sep i j a (ow i a h1).1 (ow j a h2).1⟩
  rcases clr_own e with z | ⟨z1, z2⟩
  · rw [z]; trivial
  · rw [wipe_get.2 z1, ← h i z1]
    exact r.slot i sl z2
theorem Rep.rstd {s s' : Sl} {σ : St} {B H B' H' : Hp} {vs : List Nat} (r : Rep G s σ B H) (no : vs.all (fun v => notOwn (s.getD v .un)) = true) (r' : Rep G s' (wipe σ vs) B' H') (eb : Ex B B') (hl : s'.length = s.length) : Rep G (rst s vs s') σ B' H' := by
  have key : ∀ i sl, (DL.rst s vs s')[i]? = some sl → (i ∈ vs ∧ s[i]? = some sl ∧ notOwn sl = true) ∨ (i ∉ vs ∧ s'[i]? = some sl) := fun i sl e => by
    by_cases q : i ∈ vs
    · have hi : i < s'.length := by have := (List.getElem?_eq_some_iff.mp e).1; rwa [rst_len] at this
      rw [rst_get.1 q hi] at e
      have e2 : s[i]? = some sl := by
        have e3 := Option.some.inj e
        rw [List.getD_eq_getElem?_getD, List.getElem?_eq_getElem (by omega)] at e3
        rw [List.getElem?_eq_getElem (by omega), ← e3]; rfl
      refine .inl ⟨q, e2, ?_⟩
      have := List.all_eq_true.mp no i q
      rwa [Option.some.inj e] at this
    · rw [rst_get.2 q] at e; exact .inr ⟨q, e⟩
  have ow : ∀ i a, Owns (DL.rst s vs s') σ i a → Owns s' (wipe σ vs) i a := fun i a ⟨⟨d, h1⟩, h2⟩ => by
    rcases key i _ h1 with ⟨_, _, z⟩ | ⟨z1, z2⟩
    · cases z
    · exact ⟨⟨d, z2⟩, by rw [wipe_get.2 z1]; exact h2⟩
  refine ⟨r'.ex, by rw [rst_len, hl]; exact r.len, fun i sl e => ?_, fun i j a h1 h2 => r'.sep i j a (ow i a h1) (ow j a h2)⟩
  rcases key i sl e with ⟨z1, z2, z3⟩ | ⟨z1, z2⟩
  · have w := r.slot i sl z2
    cases sl with
    | un => trivial
    | sh d => obtain ⟨v, q1, q2⟩ := w; exact ⟨v, q1, q2.mono eb⟩
    | own d => cases z3
  · have w := r'.slot i sl z2
    rw [wipe_get.2 z1] at w
    exact w
theorem pat_rst {s s' : Sl} {vs : List Nat} (no : vs.all (fun v => notOwn (s.getD v .un)) = true) (p : Pat (clr vs s) s') : Pat s (rst s vs s') := by
  have hl : s'.length = s.length := p.1.trans (clr_len s vs)
  refine ⟨by rw [rst_len, hl], fun i => ?_⟩
  by_cases q : i ∈ vs
  · by_cases hi : i < s.length
    · rw [rst_get.1 q (by omega), List.getD_eq_getElem?_getD, List.getElem?_eq_getElem hi]; rfl
    · rw [List.getElem?_eq_none (by rw [rst_len]; omega), List.getElem?_eq_none (by omega)]
  · rw [rst_get.2 q]
    have := p.2 i
    rw [clr_get.2 q] at this
    exact this
theorem own_wipe {s : Sl} {σ : St} {vs : List Nat} {a : Addr} (h : OwnS (clr vs s) (wipe σ vs) a) : OwnS s σ a := by
  obtain ⟨i, ⟨d, h1⟩, h2⟩ := h
  rcases clr_own h1 with z | ⟨z1, z2⟩
  · cases z
  · exact ⟨i, ⟨d, z2⟩, by rwa [wipe_get.2 z1] at h2⟩
theorem gr_rst {s s' : Sl} {σ : St} {B H B' H' : Hp} {vs : List Nat} (no : vs.all (fun v => notOwn (s.getD v .un)) = true) (g : Gr (clr vs s) (wipe σ vs) B H s' B' H') : Gr s σ B H (rst s vs s') B' H' :=
  ⟨g.b, fun a o h n => g.keep a o h fun z => n (own_wipe z), g.new, g.dom, pat_rst no g.pat⟩
def rem (H : Hp) (p : Addr) : Hp := fun a => if a = p then none else H a
theorem rem_some {H : Hp} {p a : Addr} {o : HO} (h : rem H p a = some o) : a ≠ p ∧ H a = some o := by
  unfold rem at h
  split at h
  · cases h
  · rename_i q; exact ⟨q, h⟩
theorem rem_ne {H : Hp} {p a : Addr} (h : a ≠ p) : rem H p a = H a := if_neg h
theorem rem_self {H : Hp} {p : Addr} : rem H p p = none := if_pos rfl
theorem rem_none {H : Hp} {p a : Addr} (h : H a = none) : rem H p a = none := by
  by_cases q : a = p
  · rw [q]; exact rem_self
  · rw [rem_ne q]; exact h
theorem rem_get {H : Hp} {p a : Addr} (h : rem H p a ≠ none) : a ≠ p ∧ H a ≠ none :=
  ⟨fun q => h (by rw [q]; exact rem_self), fun q => h (rem_none q)⟩
theorem Gr.rem {s s' : Sl} {σ : St} {B H B' H' : Hp} (g : Gr s σ B H s' B' H') (p : Addr) : Gr s σ B (rem H p) s' B' H' :=
  ⟨g.b, fun a o h n => g.keep a o (rem_some h).2 n, fun a h => (g.new a h).imp_right rem_none, fun a h => g.dom a (rem_get h).2, g.pat⟩
theorem Gr.rem2 {s s' : Sl} {σ : St} {B H B' H' : Hp} (g : Gr s σ B H s' B' H') (p : Addr) : Gr s σ B (DL.rem H p) s' B' (DL.rem H' p) :=
  ⟨g.b, fun a o h n => by rw [rem_ne (rem_some h).1]; exact g.keep a o (rem_some h).2 n, fun a h => (g.new a h).imp_right rem_none, fun a h => by rw [rem_ne (rem_get h).1]; exact g.dom a (rem_get h).2, g.pat⟩
/-- a store to the new object at p -/
theorem Gr.store {s s2 : Sl} {σ : St} {B1 H1 B2 H2 : Hp} {p : Addr} {o : HO} (g : Gr s σ B1 H1 s2 B2 H2) : Gr s σ B1 (DL.rem H1 p) s2 B2 (upd H2 p o) :=
  ⟨g.b, fun a u h n => by rw [upd_ne (rem_some h).1]; exact g.keep a u (rem_some h).2 n, fun a h => (g.new a h).imp_right rem_none, fun a h => by
    rw [upd_ne (rem_get h).1]; exact g.dom a (rem_get h).2, g.pat⟩
abbrev TAct := St → Hp → Addr → (Hp → Prop) → Prop
/-- what a turn does to the new thing at Dl -/
def SndAct (G : Tb) (ta : TAct) (act : D → M D) : Prop := ∀ s σ B H Dl x, Rep G s σ B H → B Dl = none → ¬ OwnS s σ Dl → OwnAt G B H Dl x → ∀ x' s5, act x s = .ok x' s5 → ∀ Nx : Hp → Prop,
  (∀ B5 H5, Rep G s5 σ B5 H5 → Gr s σ B (rem H Dl) s5 B5 H5 → B5 Dl = none → OwnAt G B5 H5 Dl x' → Nx H5) → ta σ H Dl Nx
theorem opt_ok {α : Type} {o : Option α} {s s' : Sl} {a : α} (h : opt o s = .ok a s') : o = some a ∧ s' = s := by
  unfold opt at h
  cases o with
  | none => cases h
  | some b => cases h; exact ⟨rfl, rfl⟩
theorem new_none {s s' : Sl} {σ : St} {B H B' H' : Hp} {p : Addr} (g : Gr s σ B H s' B' H') (hb : B p = none) (hp : H p ≠ none) : B' p = none := by
  by_cases q : B' p = none
  · exact q
  · rcases g.new p q with z | z
    · exact absurd hb z
    · exact absurd z hp
/-- an expression's value at a state where it comes out -/
theorem Snd.okW0 {α β : Type} {R : RL α β} {t : TX β} {f : M α} (h : Snd G W0 R t f) {s : Sl} {σ : St} {B H : Hp} {a : α} {s1 : Sl} (rep : Rep G s σ B H) (e : f s = .ok a s1) {Q : β → Hp → Prop}
    (k : ∀ b B' H', Gr s σ B H s1 B' H' → Rep G s1 σ B' H' → R H B' H' a b → Q b H') : t σ H Q :=
  h s σ B H rep Q (fun a' s' b B' H' e' g r q => by rw [e] at e'; cases e'; exact k b B' H' g r q) (fun x s' dd B' H' e' => by rw [e] at e'; cases e') (by rw [e]; exact fun z => by cases z)
def ta1 (te : TE) : TAct := fun σ H Dl Nx => te σ H fun y H4 => ∃ acc, H4 Dl = some (.lst acc) ∧ acc.length < sizeLine ∧ Nx (upd H4 Dl (.lst (acc ++ [y])))
theorem snd_act1 {te : TE} {fe : M D} (he : Snd G W0 (RE G) te fe) : SndAct G (ta1 te) (act1 fe) := by
  intro s σ B H Dl x rep hb hn hO x' s5 e Nx k
  obtain ⟨y, s4, e1, e2⟩ := bnd_ok e
  obtain ⟨e3, rfl⟩ := opt_ok e2
  refine he.okW0 rep e1 fun v B5 H5 g5 r5 q5 => ?_
  unfold pushD at e3
  split at e3
  · split at e3
    · rename_i acc hz
      cases e3
      obtain ⟨av, h1, h2⟩ := hO
      have h5 : H5 Dl = some (.lst av) := g5.keep Dl _ h1 hn
      have b5 := new_none g5 hb (by rw [h1]; exact fun z => by cases z)
      refine ⟨av, h5, by rw [h2.len]; exact hz, k B5 _ (r5.aside b5 fun z => hn (g5.pat.own.1 z)) g5.store b5 ⟨_, upd_same, (h2.mono g5.b).append (.one q5)⟩⟩
    · cases e3
  · cases e3
def taD (tk tv : TE) : TAct := fun σ H Dl Nx => tk σ H fun y H4 => tv σ H4 fun z H5 => ∃ kvs k, y = kV k ∧ H5 Dl = some (.dK kvs) ∧ kvs.length < sizeLine ∧ Nx (upd H5 Dl (.dK (putK kvs k z)))
theorem RDk.len {B : Hp} : ∀ {ds : List (Key × D)} {vs : List (Key × V)}, RDk G B ds vs → vs.length = ds.length
  | [], _, h => by rw [show _ = [] from h]; rfl
  | (k, d) :: ds, _, ⟨v, r, h1, _, h3⟩ => by rw [h1, List.length_cons, List.length_cons, RDk.len h3]
theorem RDk.append {B : Hp} : ∀ {ds es : List (Key × D)} {vs us : List (Key × V)}, RDk G B ds vs → RDk G B es us → RDk G B (ds ++ es) (vs ++ us)
  | [], _, _, _, h, r => by rw [show _ = [] from h]; exact r
  | (k, d) :: ds, _, _, _, ⟨v, q, h1, h2, h3⟩, r => ⟨v, _, by rw [h1]; rfl, h2, RDk.append h3 r⟩
theorem RDk.any {B : Hp} (c : Key) : ∀ {ds : List (Key × D)} {vs : List (Key × V)}, RDk G B ds vs → (vs.any fun kv => decide (kv.1 = c)) = (ds.any fun kv => decide (kv.1 = c))
  | [], _, h => by rw [show _ = [] from h]; rfl
  | (k, d) :: ds, _, ⟨v, q, h1, h2, h3⟩ => by rw [h1, List.any_cons, List.any_cons, RDk.any c h3]
theorem RDk.upd {B : Hp} (c : Key) {d' : D} {v' : V} (h' : RD G B d' v') : ∀ {ds : List (Key × D)} {vs : List (Key × V)}, RDk G B ds vs → RDk G B (ds.map fun kv => if kv.1 = c then (kv.1, d') else kv) (vs.map fun kv => if kv.1 = c then (kv.1, v') else kv)
  | [], _, h => by rw [show _ = [] from h]; exact rfl
  | (k, d) :: ds, _, ⟨v, q, h1, h2, h3⟩ => by
    rw [h1, List.map_cons, List.map_cons]
    by_cases e : k = c
    · rw [if_pos e, if_pos e]; exact ⟨_, _, rfl, h', RDk.upd c h' h3⟩
    · rw [if_neg e, if_neg e]; exact ⟨_, _, rfl, h2, RDk.upd c h' h3⟩
theorem RDk.put {B : Hp} {c : Key} {d : D} {v : V} {ds : List (Key × D)} {vs : List (Key × V)} (h : RDk G B ds vs) (r : RD G B d v) : RDk G B (putA ds c d) (putK vs c v) := by
  unfold putA putK
  rw [h.any c]
  split
  · exact RDk.upd c r h
  · exact h.append ⟨_, _, rfl, r, rfl⟩
theorem RDk.get {B : Hp} {c : Key} : ∀ {ds : List (Key × D)} {vs : List (Key × V)}, RDk G B ds vs → (∀ d, getA ds c = some d → ∃ v, valV vs c = some v ∧ RD G B d v) ∧ (getA ds c = none → valV vs c = none)
  | [], _, h => by rw [show _ = [] from h]; exact ⟨(fun _ e => by cases e), fun _ => rfl⟩
  | (k, d) :: ds, _, ⟨v, q, h1, h2, h3⟩ => by
    rw [h1]
    unfold getA valV
    rw [List.find?_cons, List.find?_cons]
    by_cases e : k = c
    · simp only [e, decide_true, Option.map_some]
      exact ⟨fun d' z => by cases z; exact ⟨v, rfl, h2⟩, fun z => by cases z⟩
    · simp only [e, decide_false]
      exact RDk.get h3
theorem keyD_v {B : Hp} {d : D} {v : V} {c : Key} (h : RD G B d v) (e : keyD d = some c) : v = kV c := by
  cases d <;> simp only [keyD] at e <;> first | cases e | skip
  all_goals exact h
theorem snd_actD {tk tv : TE} {fk fv : M D} (hk : Snd G W0 (RE G) tk fk) (he : Snd G W0 (RE G) tv fv) : SndAct G (taD tk tv) (actD fk fv) := by
  intro s σ B H Dl x rep hb hn hO x' s5 e Nx k
  obtain ⟨kd, s3, e1, e2⟩ := bnd_ok e
  obtain ⟨vd, s4, e3, e4⟩ := bnd_ok e2
  obtain ⟨e5, rfl⟩ := opt_ok e4
  refine hk.okW0 rep e1 fun kv B4 H4 g4 r4 (q4 : RD G B4 kd kv) => ?_
  refine he.okW0 r4 e3 fun v B5 H5 g5 r5 (q5 : RD G B5 vd v) => ?_
  have g45 := g4.trans g5
  unfold putD at e5
  split at e5
  · obtain ⟨c, ec, e6⟩ := Option.bind_eq_some_iff.mp e5
    split at e6
    · rename_i kvs hz
      cases e6
      obtain ⟨av, h1, h2⟩ := hO
      have h5 : H5 Dl = some (.dK av) := g45.keep Dl _ h1 hn
      have b5 := new_none g45 hb (by rw [h1]; exact fun z => by cases z)
      refine ⟨av, c, keyD_v q4 ec, h5, by rw [h2.len]; exact hz, k B5 _ (r5.aside b5 fun z => hn (g45.pat.own.1 z)) g45.store b5 ⟨_, upd_same, (h2.mono g45.b).put q5⟩⟩
    · cases e6
  · cases e5
/-- what holds between two turns of a comprehension: s' the slots -/
structure CT (G : Tb) (s1 : Sl) (σ : St) (B1 H1 : Hp) (vs : List Nat) (Dl : Addr) (s' : Sl) (B' H' : Hp) : Prop where
  rep : Rep G s' (wipe σ vs) B' H'
  gr : Gr (clr vs s1) (wipe σ vs) B1 H1 s' B' H'
  bD : B' Dl = none
theorem comp_loop {J : It} {ds : List D} {g : TG} {tg : D → M Fl} {ns vs : List Nat} {tt : TT} {ct : M Bool} {ta : TAct} {act : D → M D} (hg : SndTG G g tg ns) (hns : ∀ i ∈ ns, i ∈ vs) (ht : Snd G W0 RT tt ct) (ha : SndAct G ta act)
    {s1 sF : Sl} {σ : St} {B1 H1 H0 : Hp} {Dl : Addr} {x0 xF : D} (l1 : s1.length = σ.length) (q1 : WalkD G J B1 ds) (r0 : Rep G (clr vs s1) (wipe σ vs) B1 H1) (hD : H1 Dl = none) (he : ∀ a, a ≠ Dl → H0 a = H1 a) (h0 : OwnAt G B1 H0 Dl x0)
    (run : compF tg ct act vs ds x0 (clr vs s1) = .ok xF sF) {Fin : Hp → Prop} (fin : ∀ B' H', CT G s1 σ B1 H1 vs Dl sF B' H' → OwnAt G B' H' Dl xF → Fin H') :
    ∃ W : Nat → Nat → Hp → Prop, (∃ m, W 0 m H0) ∧ ∀ i m H, W i m H → (J.stop i H ∧ Fin H) ∨ (J.go i H ∧ ∃ Nx : Hp → Prop, (∀ H', Nx H' → ∃ m', m' < m ∧ W (i + 1) m' H') ∧ ∀ x H', J.yld i H x H' → g x (wipe σ vs) H' fun σ2 H2 => wipe σ2 vs = wipe σ vs ∧ tt σ2 H2 fun b H3 =>
      if b = true then ta σ2 H3 Dl Nx else Nx H3) := by
  have b1D : B1 Dl = none := r0.ex.back hD
  have ne0 : ∀ s σ, Rep G s σ B1 H1 → ¬ OwnS s σ Dl := fun s σ r => r.nown hD
  have c0 : CT G s1 σ B1 H1 vs Dl (clr vs s1) B1 H0 := by
    refine ⟨⟨fun a u z => ?_, r0.len, fun i sl e => ?_, r0.sep⟩, ⟨.refl _, fun a o h _ => ?_, fun a h => .inl h, fun a h => ?_, .refl _⟩, b1D⟩
    · rw [he a (fun q => by rw [q, b1D] at z; cases z)]; exact r0.ex a u z
    · have w := r0.slot i sl e
      cases sl with
      | un => trivial
      | sh d => exact w
      | own d =>
        obtain ⟨a, w1, w2, w3⟩ := w
        have ne : a ≠ Dl := w3.ne hD
        exact ⟨a, w1, w2, w3.mono (.refl _) fun o z => by rw [he a ne]; exact z⟩
    · rw [he a (fun q => by rw [q, hD] at h; cases h)]; exact h
    · rw [he a (fun q => by rw [q, hD] at h; exact h rfl)]; exact h
  refine ⟨fun i m H' => ∃ s' B' x, m = ds.length - i ∧ i ≤ ds.length ∧ CT G s1 σ B1 H1 vs Dl s' B' H' ∧ OwnAt G B' H' Dl x ∧ compF tg ct act vs (ds.drop i) x s' = .ok xF sF,
    ⟨ds.length, clr vs s1, B1, x0, by simp, Nat.zero_le _, c0, h0, by rw [List.drop_zero]; exact run⟩, ?_⟩
  rintro i m H' ⟨s', B', x, rfl, hi, ct', hO, erun⟩
  by_cases hlt : i < ds.length
  · refine .inr ⟨q1.go i B' H' ct'.gr.b ct'.rep.ex hlt, _, fun H2 z => z, fun v H3 hy => ?_⟩
    obtain ⟨B3, d, gn, hd, rd⟩ := q1.yl i B' H' v H3 ct'.gr.b ct'.rep.ex hlt hy
    have hdrop : ds.drop i = d :: ds.drop (i + 1) := by
      rw [List.drop_eq_getElem_cons hlt]
      have : ds[i] = d := by rw [List.getElem?_eq_getElem hlt] at hd; exact Option.some.inj hd
      rw [this]
    rw [hdrop] at erun
    have rep3 := gn.rep ct'.rep
    have gr3 := ct'.gr.trans gn.gr
    have hO3 : OwnAt G B3 H3 Dl x := hO.mono gn.b fun o z => gn.h Dl o z
    have b3D : B3 Dl = none := by
      by_cases q : B3 Dl = none
      · exact q
      · rcases gn.nw Dl q with z | z
        · exact absurd ct'.bD z
        · exact absurd z hO.there
    obtain ⟨fl, s2', et, erun2⟩ := bnd_ok erun
    obtain ⟨s2, et2⟩ := hg.form d s' (by rw [et]; exact fun z => by cases z)
    rw [et] at et2
    cases et2
    refine hg.run d v s' (wipe σ vs) B3 H3 _ rep3 rd (fun s2a σ2 e2 g2 r2 hl2 h2o h2s => ?_) (by rw [et]; exact fun z => by cases z)
    rw [et] at e2
    cases e2
    have hout : ∀ j, j ∉ vs → σ2[j]? = σ[j]? := fun j hj => by rw [h2o j fun z => hj (hns j z), wipe_get.2 hj]
    have hl2' : σ2.length = σ.length := by rw [hl2, wipe_length]
    refine ⟨wipe_eq hl2' hout, ?_⟩
    have own2 : ∀ a, OwnS s2' σ2 a → OwnS (clr vs s1) (wipe σ vs) a := fun a z => by
      rcases (g2 [] (fun _ _ => by simp)).own a z with y | y
      · exact gr3.pat.own.1 y
      · exact absurd y (by
          obtain ⟨k, ⟨dd, z1⟩, z2⟩ := z
          obtain ⟨a', w1, w2, w3⟩ := r2.slot k _ z1
          rw [z2] at w1; cases w1
          exact w3.there)
    obtain ⟨b, s3, ec, erun3⟩ := bnd_ok erun2
    refine ht.okW0 r2 ec fun bb B4 H4 g4 r4 (q4 : b = bb) => ?_
    subst q4
    have back : ∀ s5 B5 H5, Rep G s5 σ2 B5 H5 → Gr s2' σ2 B3 (rem H3 Dl) s5 B5 H5 → B5 Dl = none → CT G s1 σ B1 H1 vs Dl (clr vs s5) B5 H5 := fun s5 B5 H5 r5 g5 b5 => by
      have rw5 : Rep G (clr vs s5) (wipe σ vs) B5 H5 := r5.wiped hl2' hout
      refine ⟨rw5, ⟨gr3.b.trans g5.b, fun a o ho hn => g5.keep a o (by rw [rem_ne (fun q => by rw [q, hD] at ho; cases ho)]; exact gr3.keep a o ho hn) fun z => hn (own2 a z), fun a z => ?_, fun a z => g5.dom a (by rw [rem_ne (fun q => by rw [q, hD] at z; exact z rfl)]; exact gr3.dom a z), ?_⟩, b5⟩
      · rcases g5.new a z with y | y
        · exact gr3.new a y
        · by_cases q : H1 a = none
          · exact .inr q
          · exact absurd y (by rw [rem_ne (fun q' => by rw [q', hD] at q; exact q rfl)]; exact gr3.dom a q)
      · refine ⟨by have a1 := g5.pat.1; have a2 := r2.len; rw [clr_len, clr_len]; omega, fun j => ?_⟩
        by_cases q : j ∈ vs
        · constructor
          · rintro ⟨dd, z⟩
            rcases clr_own z with y | ⟨y, _⟩
            · cases y
            · exact absurd q y
          · rintro ⟨dd, z⟩
            rcases clr_own z with y | ⟨y, _⟩
            · cases y
            · exact absurd q y
        · rw [clr_get.2 q, clr_get.2 q]
          have p1 := g5.pat.2 j
          have p2 := gr3.pat.2 j
          rw [clr_get.2 q] at p2
          rw [← p2, p1, h2s j fun z => q (hns j z)]
    have nD2 : ¬ OwnS s2' σ2 Dl := fun z => r0.nown hD (own2 Dl z)
    have hO4 : OwnAt G B4 H4 Dl x := hO3.mono g4.b fun o z => g4.keep Dl o z nD2
    have b4D : B4 Dl = none := new_none g4 b3D hO3.there
    cases b with
    | false =>
      have er : bnd (sClr vs) (fun _ => compF tg ct act vs (ds.drop (i + 1)) x) s3 = .ok xF sF := erun3
      have er2 : compF tg ct act vs (ds.drop (i + 1)) x (clr vs s3) = .ok xF sF := by simpa only [bnd, sClr] using er
      show ∃ m', m' < ds.length - i ∧ _
      exact ⟨_, by omega, clr vs s3, B4, x, rfl, hlt, back s3 B4 H4 r4 (g4.rem Dl) b4D, hO4, er2⟩
    | true =>
      obtain ⟨y, s5, ee, erun4⟩ := bnd_ok (show bnd (act x) (fun y => bnd (sClr vs) fun _ => compF tg ct act vs (ds.drop (i + 1)) y) s3 = .ok xF sF from erun3)
      have er2 : compF tg ct act vs (ds.drop (i + 1)) y (clr vs s5) = .ok xF sF := by simpa only [bnd, sClr] using erun4
      show ta σ2 H4 Dl _
      refine ha s3 σ2 B4 H4 Dl x r4 b4D (fun z => nD2 (g4.pat.own.1 z)) hO4 y s5 ee _ fun B5 H5 r5 g5 b5 hO5 => ?_
      exact ⟨_, by omega, clr vs s5, B5, y, rfl, hlt, back s5 B5 H5 r5 ((g4.rem2 Dl).trans g5) b5, hO5, er2⟩
  · have hz : i = ds.length := by omega
    subst hz
    rw [List.drop_length] at erun
    have z : Res.ok x s' = .ok xF sF := erun
    injection z with z1 z2
    subst z1 z2
    exact .inl ⟨q1.stop B' H' ct'.gr.b ct'.rep.ex, fin B' H' ct' hO⟩
/-- any comprehension: tC its reading, o0 the new thing as it begins -/
theorem snd_compG {wi : TI} {fi : M (List D)} {g : TG} {tg : D → M Fl} {ns vs : List Nat} {tt : TT} {ct : M Bool} {ta : TAct} {act : D → M D} {x0 : D} {o0 : HO} (h : Snd G W (RI G) wi fi) (hg : SndTG G g tg ns) (hns : ∀ i ∈ ns, i ∈ vs) (ht : Snd G W0 RT tt ct) (ha : SndAct G ta act) (h0 : ∀ B H p, OwnAt G B (upd H p o0) p x0) :
    Snd G W (RF G) (fun σ H Q => wi σ H fun J H1 => ∀ D, H1 D = none → ∃ W : Nat → Nat → Hp → Prop, (∃ m, W 0 m (upd H1 D o0)) ∧ ∀ i m H, W i m H →
      (J.stop i H ∧ Q (.ref D) H) ∨ (J.go i H ∧ ∃ Nx : Hp → Prop, (∀ H', Nx H' → ∃ m', m' < m ∧ W (i + 1) m' H') ∧ ∀ x H', J.yld i H x H' → g x (wipe σ vs) H' fun σ2 H2 => wipe σ2 vs = wipe σ vs ∧ tt σ2 H2 fun b H3 =>
        if b = true then ta σ2 H3 D Nx else Nx H3)) (eCompG x0 fi tg ct act vs) := fun s σ B H rep => by
  refine At.seq (R2 := RF G) (t2 := fun (J : It) H1 Q => ∀ D, H1 D = none → ∃ W : Nat → Nat → Hp → Prop, (∃ m, W 0 m (upd H1 D o0)) ∧ ∀ i m H, W i m H →
    (J.stop i H ∧ Q (.ref D) H) ∨ (J.go i H ∧ ∃ Nx : Hp → Prop, (∀ H', Nx H' → ∃ m', m' < m ∧ W (i + 1) m' H') ∧ ∀ x H', J.yld i H x H' → g x (wipe σ vs) H' fun σ2 H2 => wipe σ2 vs = wipe σ vs ∧ tt σ2 H2 fun b H3 =>
      if b = true then ta σ2 H3 D Nx else Nx H3)) (h s σ B H rep) fun ds s1 J B1 H1 e1 g1 r1 q1 => ?_
  intro Q ok exc nn Dl hD
  have hno : vs.all (fun v => notOwn (s1.getD v .un)) = true := Decidable.byContradiction fun hno => absurd (by simp only [blk, if_neg hno]) nn
  have e0 : blk vs (compF tg ct act vs ds x0) s1 = unb s1 vs (compF tg ct act vs ds x0 (clr vs s1)) := by simp only [blk, if_pos hno]
  obtain ⟨R, sF, eR, eF⟩ : ∃ R sF, compF tg ct act vs ds x0 (clr vs s1) = .ok R sF ∧ blk vs (compF tg ct act vs ds x0) s1 = .ok R (rst s1 vs sF) := by
    cases e : compF tg ct act vs ds x0 (clr vs s1) with
    | ok R sF => exact ⟨R, sF, rfl, by rw [e0, e]; rfl⟩
    | exc x sF => exact absurd (by rw [e0, e]; rfl) nn
    | no => exact absurd (by rw [e0, e]; rfl) nn
  have r0 : Rep G (clr vs s1) (wipe σ vs) B1 H1 := r1.wiped rfl fun _ _ => rfl
  refine comp_loop hg hns ht ha r1.len q1 r0 hD (fun a ha => upd_ne ha) (h0 B1 H1 Dl) eR fun B' H' c hO => ?_
  have hls : sF.length = s1.length := by rw [c.gr.pat.1, clr_len]
  exact ok R _ _ B' H' eF (gr_rst hno c.gr) (r1.rstd hno c.rep c.gr.b hls) ⟨Dl, rfl, hD, c.bD, hO⟩
theorem snd_comp {wi : TI} {fi : M (List D)} {g : TG} {tg : D → M Fl} {ns vs : List Nat} {tt : TT} {ct : M Bool} {te : TE} {fe : M D} (h : Snd G W (RI G) wi fi) (hg : SndTG G g tg ns) (hns : ∀ i ∈ ns, i ∈ vs) (ht : Snd G W0 RT tt ct) (he : Snd G W0 (RE G) te fe) :
    Snd G W (RF G) (tLc wi g tt te vs) (eComp fi tg ct fe vs) := snd_compG (o0 := .lst []) (x0 := .lst []) h hg hns ht (snd_act1 he) fun B H p => ⟨[], upd_same, rfl⟩
theorem snd_compD {wi : TI} {fi : M (List D)} {g : TG} {tg : D → M Fl} {ns vs : List Nat} {tt : TT} {ct : M Bool} {tk tv : TE} {fk fv : M D} (h : Snd G W (RI G) wi fi) (hg : SndTG G g tg ns) (hns : ∀ i ∈ ns, i ∈ vs) (ht : Snd G W0 RT tt ct) (hk : Snd G W0 (RE G) tk fk) (hv : Snd G W0 (RE G) tv fv) :
    Snd G W (RF G) (tDc wi g tt tk tv vs) (eCompD fi tg ct fk fv vs) := snd_compG (o0 := .dK []) (x0 := .dct []) h hg hns ht (snd_actD hk hv) fun B H p => ⟨[], upd_same, rfl⟩
/-- the second clause -/
def ta2 (wi1 : TI) (g1 : TG) (tt1 : TT) (te : TE) (vs1 : List Nat) : TAct := fun σ2 H3 D Nx => wi1 σ2 H3 fun J1 H4 => ∃ W1 : Nat → Nat → Hp → Prop, (∃ m, W1 0 m H4) ∧ ∀ j k H, W1 j k H →
      (J1.stop j H ∧ Nx H) ∨ (J1.go j H ∧ ∃ Nx1 : Hp → Prop, (∀ H', Nx1 H' → ∃ k', k' < k ∧ W1 (j + 1) k' H') ∧ ∀ x H', J1.yld j H x H' → g1 x (wipe σ2 vs1) H' fun σ3 H5 => wipe σ3 vs1 = wipe σ2 vs1 ∧ tt1 σ3 H5 fun b H6 =>
        if b = true then ta1 te σ3 H6 D Nx1 else Nx1 H6)
theorem Rep.unwiped {s2 : Sl} {σ : St} {B H : Hp} {vs : List Nat} (r : Rep G s2 (wipe σ vs) B H) : Rep G (clr vs s2) σ B H := by
  have ow : ∀ i a, Owns (clr vs s2) σ i a → Owns s2 (wipe σ vs) i a := fun i a ⟨⟨d, h1⟩, h2⟩ => by
    rcases clr_own h1 with z | ⟨z1, z2⟩
    · cases z
    · exact ⟨⟨d, z2⟩, by rw [wipe_get.2 z1]; exact h2⟩
  refine ⟨r.ex, by rw [clr_len, r.len, wipe_length], fun i sl e => ?_, fun i j a h1 h2 => r.sep i j a (ow i a h1) (ow j a h2)⟩
  rcases clr_own e with z | ⟨z1, z2⟩
  · rw [z]; trivial
  · have w := r.slot i sl z2
    rw [wipe_get.2 z1] at w
    exact w
theorem own_wipe' {s s2 : Sl} {σ : St} {vs : List Nat} {a : Addr} (h : OwnS (clr vs s2) σ a) : OwnS s2 (wipe σ vs) a := by
  obtain ⟨i, ⟨d, h1⟩, h2⟩ := h
  rcases clr_own h1 with z | ⟨z1, z2⟩
  · cases z
  · exact ⟨i, ⟨d, z2⟩, by rw [wipe_get.2 z1]; exact h2⟩
theorem snd_act2 {wi1 : TI} {fi1 : M (List D)} {g1 : TG} {tg1 : D → M Fl} {ns1 vs1 : List Nat} {tt1 : TT} {ct1 : M Bool} {te : TE} {fe : M D} (h : Snd G W0 (RI G) wi1 fi1) (hg : SndTG G g1 tg1 ns1) (hns : ∀ i ∈ ns1, i ∈ vs1) (ht : Snd G W0 RT tt1 ct1) (he : Snd G W0 (RE G) te fe) :
    SndAct G (ta2 wi1 g1 tt1 te vs1) (act2 fi1 tg1 ct1 fe vs1) := by
  intro s σ B H Dl x rep hb hn hO x' s5 e Nx k
  obtain ⟨ds, s4, e1, e2⟩ := bnd_ok e
  refine h.okW0 rep e1 fun J B4 H4 g4 r4 q4 => ?_
  have hO4 : OwnAt G B4 H4 Dl x := hO.mono g4.b fun o z => g4.keep Dl o z hn
  have b4 : B4 Dl = none := new_none g4 hb hO.there
  have hn4 : ¬ OwnS s4 σ Dl := fun z => hn (g4.pat.own.1 z)
  obtain ⟨_, s4', e2a, e2b⟩ := bnd_ok e2
  have hno : vs1.all (fun v => notOwn (s4.getD v .un)) = true := Decidable.byContradiction fun hno => by simp only [noOwn, if_neg hno] at e2a; cases e2a
  have es : s4' = s4 := by simp only [noOwn, if_pos hno] at e2a; cases e2a; rfl
  subst es
  obtain ⟨_, s6, e3, e4⟩ := bnd_ok e2b
  cases e3
  obtain ⟨y, s7, e5, e6⟩ := bnd_ok e4
  have e7 : clr vs1 s7 = s5 ∧ y = x' := by
    have z : Res.ok y (clr vs1 s7) = .ok x' s5 := e6
    injection z with z1 z2
    exact ⟨z2, z1⟩
  obtain ⟨rfl, rfl⟩ := e7
  have rR : Rep G s4' σ B4 (rem H4 Dl) := by
    refine ⟨fun a u z => ?_, r4.len, fun i sl z => ?_, r4.sep⟩
    · rw [rem_ne (fun q => by rw [q, b4] at z; cases z)]; exact r4.ex a u z
    · have w := r4.slot i sl z
      cases sl with
      | un => trivial
      | sh d => exact w
      | own d =>
        obtain ⟨a, w1, w2, w3⟩ := w
        have ne : a ≠ Dl := fun q => by subst q; exact hn4 ⟨i, ⟨d, z⟩, w1⟩
        exact ⟨a, w1, w2, w3.mono (.refl _) fun o z => by rw [rem_ne ne]; exact z⟩
  refine comp_loop (H1 := rem H4 Dl) (H0 := H4) hg hns ht (snd_act1 he) rR.len q4 (rR.wiped rfl fun _ _ => rfl) rem_self (fun a ha => (rem_ne ha).symm) hO4 e5 fun B' H' c hO' => ?_
  have gR : Gr s4' σ B4 (rem H4 Dl) (clr vs1 s7) B' H' := by
    refine ⟨c.gr.b, fun a o z n => c.gr.keep a o z fun q => n (own_wipe q), c.gr.new, c.gr.dom, ⟨by rw [clr_len, c.gr.pat.1, clr_len], fun j => ?_⟩⟩
    by_cases q : j ∈ vs1
    · constructor
      · rintro ⟨dd, z⟩
        rcases clr_own z with y | ⟨y, _⟩
        · cases y
        · exact absurd q y
      · rintro ⟨dd, z⟩
        have := List.all_eq_true.mp hno j q
        rw [List.getD_eq_getElem?_getD, z] at this
        cases this
    · rw [clr_get.2 q]
      have p := c.gr.pat.2 j
      rw [clr_get.2 q] at p
      exact p
  exact k B' H' c.rep.unwiped ((g4.rem2 Dl).trans gR) c.bD hO'
theorem snd_comp2 {wi wi1 : TI} {fi fi1 : M (List D)} {g g1 : TG} {tg tg1 : D → M Fl} {ns ns1 vs vs1 : List Nat} {tt tt1 : TT} {ct ct1 : M Bool} {te : TE} {fe : M D} (h : Snd G W (RI G) wi fi) (hg : SndTG G g tg ns) (hns : ∀ i ∈ ns, i ∈ vs) (ht : Snd G W0 RT tt ct)
    (h1 : Snd G W0 (RI G) wi1 fi1) (hg1 : SndTG G g1 tg1 ns1) (hns1 : ∀ i ∈ ns1, i ∈ vs1) (ht1 : Snd G W0 RT tt1 ct1) (he : Snd G W0 (RE G) te fe) :
    Snd G W (RF G) (tLc2 wi g tt wi1 g1 tt1 te vs vs1) (eComp2 fi tg ct fi1 tg1 ct1 fe vs vs1) := snd_compG (o0 := .lst []) (x0 := .lst []) h hg hns ht (snd_act2 h1 hg1 hns1 ht1 he) fun B H p => ⟨[], upd_same, rfl⟩
end
end DL

/-! ## DLt -/
namespace PySem
open Sem (wp)
set_option maxHeartbeats 4000000 in
theorem dl_meets_enum1 {v : Value} {o : Obj} {H : Heap → Prop} (B : Begins v o H) :
    Meets (Builtin.«enumerate.__new__» ⟨[.type "enumerate", v], []⟩) (fun _ R s => H s.heap ∧
      R (.ok (.ret (.ref (s.heap.push o).objs.size))) { s with heap := (s.heap.push o).push { cls := .type "enumerate", data := .fields #[.none, .bool false, .ref s.heap.objs.size, rawInt 0, .none, .none] } }) :=
  .of_wp fun prog w A R s h => by
    obtain ⟨hp, g, d, tk, os⟩ := s; obtain ⟨h1, h⟩ := h
    have hsub := sub_enumerate
    have q1 : ∀ {A' : Around} {E : Value → Shared → Prop} {Q : Value → Shared → Prop}, Q (.ref hp.objs.size) ⟨hp.push o, g, d, tk, os⟩ → wpAny (model prog w) A' (pyIter v) Q E ⟨hp, g, d, tk, os⟩ :=
      fun q => B.iter prog w _ _ ⟨hp, g, d, tk, os⟩ _ h1 q
    wp_walk using q1
    refine wpAny_stack_any fun st => wpAny_pure ?_
    split
    · rename_i c _ _ _ _ _
      cases (c == Value.type "enumerate")
      · wp_walk using q1
        exact ⟨_, rfl, h⟩
      · wp_walk using q1
        exact ⟨_, rfl, h⟩
    · wp_walk using q1
      exact ⟨_, rfl, h⟩
theorem dl_enum_begins1 {prog : Program} {w : World} {A : Around} {E : Value → Shared → Prop} {s : Shared} {v : Value} {o : Obj} {H : Heap → Prop} {Q : Value → Shared → Prop} (B : Begins v o H) (h1 : H s.heap)
    (h : ∀ h', IsEnum h' (s.heap.objs.size + 1) s.heap.objs.size 0 .none → h'.get? s.heap.objs.size = some o → h'.objs.size = s.heap.objs.size + 2 →
      (∀ b o, s.heap.get? b = some o → h'.get? b = some o) → Q (.ref (s.heap.objs.size + 1)) { s with heap := h' }) :
    wpAny (model prog w) A (call (.type "enumerate") [v]) Q E s := by
  refine callType_new F.called_enumerate (by decide) (F.typeCall_enumerate_1 _) (F.newCall_enumerate_1 _) (fun obj => F.args_object_init_2 obj _) F.entry_enumerate_new
    (dl_meets_enum1 B) ⟨h1, ?_⟩
  have hz : (s.heap.push o).objs.size = s.heap.objs.size + 1 := Heap.size_push ..
  show _ ∧ _
  rw [hz]
  have he : IsEnum ((s.heap.push o).push { cls := .type "enumerate", data := .fields #[.none, .bool false, .ref s.heap.objs.size, rawInt 0, .none, .none] }) (s.heap.objs.size + 1) s.heap.objs.size 0 .none := by
    have := Heap.get?_push_size (s.heap.push o) (o := { cls := .type "enumerate", data := .fields #[.none, .bool false, .ref s.heap.objs.size, rawInt 0, .none, .none] }) rfl
    rw [hz] at this; exact this
  refine ⟨⟨_, he, rfl⟩, h _ he (Heap.get?_push_of_some _ (Heap.get?_push_size _ B.free)) (by rw [Heap.size_push, hz]) fun b o x => Heap.get?_push_of_some _ (Heap.get?_push_of_some _ x)⟩
end PySem
namespace L2
open PySem PySem.Spec PyProof.Rows
/-- enumerate(t), t a tuple -/
def IteT (K : PySem.W.Frag) (a : Addr) : It :=
  ⟨fun i H => ∃ (xs : List V) (x : V), SqT K H a xs ∧ xs[i]? = some x, fun i H v H' => ∃ T x, v = .ref T ∧ H T = none ∧ H' = upd H T (.tup [.int (i : Nat), x]) ∧ ∀ xs, SqT K H a xs → xs[i]? = some x, fun i H => ∃ xs : List V, SqT K H a xs ∧ xs.length = i⟩
theorem turn_enumT {P : Program} {w : World} {K : PySem.W.Frag} {elts : List Expr} {kk : Nat} {tpos : Pos} (a e it : Addr) (hai : a ≠ it) (hae : a ≠ e) :
    Turn P w K (.Tuple elts kk tpos) (IteT K a) [e, it] e (fun i h => (∃ old, IsEnum h e it ((i : Nat) : Int) old) ∧ h.IsTupleIter it a i ∧ e ≠ it) where
  mem := by simp
  obj := fun i h st b hb => by
    obtain ⟨⟨old, he⟩, ⟨o, ho, hc, hd⟩, _⟩ := st
    have e' : b = e ∨ b = it := by simpa using hb
    rcases e' with z | z
    · rw [z]; exact ⟨_, he, fun v q => nomatch q⟩
    · rw [z]; exact ⟨o, ho, fun v q => by rw [hd] at q; cases q⟩
  keep := fun i h h' st k => let ⟨⟨old, he⟩, hi, hne⟩ := st; ⟨⟨old, k e (by simp) _ he⟩, hi.at fun o q => k it (by simp) o q, hne⟩
  item := by
    intro X hP hw hK hc i pins s σ H E I hf st hg
    subst hP hw hK
    obtain ⟨⟨old, he⟩, hit, hne⟩ := st
    obtain ⟨xs, x, hq, hx⟩ := hg
    obtain ⟨its, rv, p, hz⟩ := I.tuple hq
    obtain ⟨u, hu, ru⟩ := rv.get hx
    have hel : e < s.heap.objs.size := Heap.lt_size he
    have hil : it < s.heap.objs.size := by obtain ⟨_, q, _⟩ := hit; exact Heap.lt_size q
    have hlt : i < its.toArray.size := by
      have := (List.getElem?_eq_some_iff.mp hu).1
      simpa using this
    refine wpAny_pyNext_enum_itemC (Draws.tuple (A := X.A.in1) (I.ok.hd hc) it a hai its.toArray) he (show _ ∧ _ from ⟨hit, p⟩) hlt hne (fun hm => by
      have e' : e = it ∨ e = a := by simpa using hm
      rcases e' with z | z
      · exact hne z
      · exact hae z.symm) fun x2 h' tk hx2 ho hst' hT hsz hk => ?_
    have hux : x2 = u := by
      have h1 : its.toArray[i]? = some x2 := hx2
      have h2 : its.toArray[i]? = some u := by simpa using hu
      rw [h2] at h1; exact (Option.some.inj h1).symm
    subst hux
    refine ⟨_, rfl, wpAny_letOwnedTupleGo_enum (s := { s with heap := h', toks := tk + 1 }) ho fun h'' he' sb => ?_⟩
    have hT2 : h''.get? s.heap.objs.size = some { cls := .type "tuple", data := .seq #[.int i tk, x2] } := (sb.2 _ (Nat.ne_of_gt hel)).trans hT
    have new : ObjOk X.prog X.w (upd H s.heap.objs.size (.tup [.int (i : Nat), x])) h'' s.heap.objs.size (.tup [.int (i : Nat), x]) :=
      ⟨by show 2 ≤ sizeLine; decide, [.int i tk, x2], .cons ⟨_, rfl⟩ (.cons ru .nil), ⟨_, hT2, rfl, _, rfl⟩⟩
    have I1 : Inv X pins σ (upd H s.heap.objs.size (.tup [.int (i : Nat), x])) { s with heap := h'', toks := tk + 1 } :=
      I.turnedNew (ch := [e, it]) (fun b ob hb q => (sb.2 b (fun z => hb (by simp [z]))).trans (hk b ob (fun z => hb (by simp [z])) (fun z => hb (by simp [z])) q)) hf (Nat.le_refl _) new
    refine ⟨.ref s.heap.objs.size, _, I1, rfl, ⟨_, x, rfl, I.hok.fresh (Nat.le_refl _), rfl, fun ys hy => by rw [I.tuple_inj hy hq]; exact hx⟩, ⟨⟨x2, ?_⟩, hst'.1.at fun o q => (sb.2 it (Ne.symm hne)).trans q, hne⟩, fun b hb => ?_⟩
    · have e1 : ((i + 1 : Nat) : Int) = (i : Int) + 1 := by omega
      rw [e1]; exact he'
    · have hb' : b < s.heap.objs.size := by
        have e' : b = e ∨ b = it := by simpa using hb
        rcases e' with z | z
        · rw [z]; exact hel
        · rw [z]; exact hil
      rw [upd_ne (Nat.ne_of_lt hb')]
      exact (hf b hb).1
  done := by
    intro X hP hw hK hc i pins s σ H E I hf st hg
    subst hP hw hK
    obtain ⟨⟨old, he⟩, hit, hne⟩ := st
    obtain ⟨xs, hq, hx⟩ := hg
    obtain ⟨its, rv, p, hz⟩ := I.tuple hq
    obtain ⟨f0, f1, f2, f3, f4, f5⟩ := hf it (by simp)
    have hl := rv.length
    have hz2 : its.toArray.size = i := by rw [List.size_toArray, ← hl, hx]
    refine wpAny_pyNext_enum_endD (n := its.toArray.size) (Draws.tuple (A := X.A.in1) (I.ok.hd hc) it a hai its.toArray) he (show _ ∧ _ from ⟨by rw [hz2]; exact hit, p⟩) fun h' eb => ⟨rfl, I.turned (t' := s.toks) (fun b o hb q => eb b o hb q) f0 f1 f3 f4 f5⟩
  self := fun A i s Q E st h => let ⟨⟨_, he⟩, _⟩ := st; wpAny_pyIter_enum he h
def iEnumT (K : PySem.W.Frag) (ta : TA) : TI := fun σ H R => ta σ H fun vs H1 => ∃ a xs, vs = [.ref a] ∧ SqT K H1 a xs ∧ R (IteT K a) H1
theorem pi_enumT {X : Cx} {e : Expr} {ta : TA} {p pos tpos : Pos} {elts : List Expr} {kk : Nat} (hg : Gl X "enumerate") (hm : X.mg "enumerate" = none) (ha : PA X [e] ta) (hs : starEach [e] X.env = [(false, eval e X.env)] := by rfl) :
    PI X (.Tuple elts kk tpos) (.Call (.Name "enumerate" p) [e] [] pos) (iEnumT X.K ta) := by
  refine ⟨fun pins s σ H R I h => ?_⟩
  refine Call_ (ld_blt I hg hm boot_enumerate (PyProof.Rows.callWith_type1 (thn (ha.run pos pins s σ H _ I h) fun us s1 ⟨vs, H1, I1, r1, q1⟩ => ?_) hs rfl))
  obtain ⟨a, xs, ex, hq, q⟩ := q1
  subst ex
  cases r1 with
  | cons r rr =>
    cases rr
    cases r
    obtain ⟨its, rv, p', hz⟩ := I1.tuple hq
    have hal : a < s1.heap.objs.size := p'.lt
    refine dl_enum_begins1 (begins_tuple a its.toArray) p' fun h' he hit hsz hk => wpAny_pyIter_enum he ?_
    have I2 : Inv X pins σ H1 { s1 with heap := h' } := I1.kept (t' := s1.toks) hk
    refine ⟨s1.heap.objs.size + 1, [s1.heap.objs.size + 1, s1.heap.objs.size], _, _, H1, rfl, I2, turn_enumT a (s1.heap.objs.size + 1) s1.heap.objs.size (Nat.ne_of_lt hal) (Nat.ne_of_lt (Nat.lt_succ_of_lt hal)), ⟨⟨.none, he⟩, ⟨_, hit, rfl, rfl⟩, Nat.succ_ne_self _⟩, fun b hb => ?_, q⟩
    have e' : b = s1.heap.objs.size + 1 ∨ b = s1.heap.objs.size := by simpa using hb
    have hle : s1.heap.objs.size ≤ b := by
      rcases e' with z | z
      · rw [z]; exact Nat.le_add_right _ _
      · rw [z]; exact Nat.le_refl _
    exact I1.fpOk hle (I1.hok.fresh hle)
theorem PI.or {X : Cx} {tg e : Expr} {a b : TI} (ha : PI X tg e a) (hb : PI X tg e b) : PI X tg e (fun σ H R => a σ H R ∨ b σ H R) :=
  ⟨fun pins s σ H R I h => h.elim (ha.run pins s σ H R I) (hb.run pins s σ H R I)⟩
end L2
namespace DL
open PySem L2
section
variable {G : Tb} {W : WX} {fx : List Nat} {ta tb tc : TE} {fa fb fc : M D}
/-- where the value is known to be of one of two kinds, either reading will do -/
theorem snd_or2 {α β : Type} {R : RL α β} {t1 t2 : TX β} {f f1 f2 : M α} (h1 : Snd G W R t1 f1) (h2 : Snd G W R t2 f2) (h : ∀ s, f s = f1 s ∨ f s = f2 s) : Snd G W R (fun σ H Q => t1 σ H Q ∨ t2 σ H Q) f := fun s σ B H rep Q ok exc nn => by
  rcases h s with e | e
  · exact .inl (h1 s σ B H rep Q (fun a s' b B' H' z => ok a s' b B' H' (e.trans z)) (fun x s' dd B' H' z => exc x s' dd B' H' (e.trans z)) fun z => nn (e.trans z))
  · exact .inr (h2 s σ B H rep Q (fun a s' b B' H' z => ok a s' b B' H' (e.trans z)) (fun x s' dd B' H' z => exc x s' dd B' H' (e.trans z)) fun z => nn (e.trans z))
def lstItems : D → Option (List D)
  | .lst ds => some ds
  | _ => none
def tupItems : D → Option (List D)
  | .tup ds => some ds
  | _ => none
def chD (z : Str) : List D := z.cps.toList.map fun c => .str ⟨#[c]⟩
def strItems : D → Option (List D)
  | .str z => some (chD z)
  | _ => none
def seqItems : D → Option (List D)
  | .lst ds => some ds
  | .tup ds => some ds
  | .str z => some (chD z)
  | _ => none
theorem walk_l {a : Addr} {ds : List D} {vs : List V} {B : Hp} (h : B a = some (.lst vs)) (r : RDs G B ds vs) : WalkD G (Itl G.K a) B ds where
  go := fun i B2 H2 e x hi => ⟨vs, vs[i]'(by rw [r.len]; exact hi), .of (x _ _ (e _ _ h)), by simp [r.len, hi]⟩
  stop := fun B2 H2 e x => ⟨vs, .of (x _ _ (e _ _ h)), by rw [r.len]; exact Nat.le_refl _⟩
  yl := fun i B2 H2 x H3 e ex hi ⟨q1, q2⟩ => by
    obtain ⟨d, h1, h2⟩ := r.get' (q2 vs (.of (ex _ _ (e _ _ h))))
    exact ⟨B2, d, by rw [q1]; exact .refl ex, h1, h2.mono e⟩
theorem walk_t {a : Addr} {ds : List D} {vs : List V} {B : Hp} (h : SqT G.K B a vs) (r : RDs G B ds vs) : WalkD G (Itt G.K a) B ds where
  go := fun i B2 H2 e x hi => ⟨vs, vs[i]'(by rw [r.len]; exact hi), ex_t x (ex_t e h), by simp [r.len, hi]⟩
  stop := fun B2 H2 e x => ⟨vs, ex_t x (ex_t e h), by rw [r.len]; exact Nat.le_refl _⟩
  yl := fun i B2 H2 x H3 e ex hi ⟨q1, q2⟩ => by
    obtain ⟨d, h1, h2⟩ := r.get' (q2 vs (ex_t ex (ex_t e h)))
    exact ⟨B2, d, by rw [q1]; exact .refl ex, h1, h2.mono e⟩
theorem walk_s {z : Str} {B : Hp} : WalkD G (Its z) B (chD z) where
  go := fun i B2 H2 e x hi => by
    have : i < z.cps.size := by simpa [chD] using hi
    exact (walk_str (z := z)).goes i H2 this trivial
  stop := fun B2 H2 e x => by
    have : (chD z).length = z.cps.size := by simp [chD]
    rw [this]
    exact (walk_str (z := z)).stops H2 trivial
  yl := fun i B2 H2 x H3 e ex hi y => by
    have hi' : i < z.cps.size := by simpa [chD] using hi
    obtain ⟨q1, c, q2, q3⟩ := (walk_str (z := z)).yields i H2 x H3 hi' trivial y
    refine ⟨B2, .str ⟨#[c]⟩, by rw [q1]; exact .refl ex, ?_, q3⟩
    unfold chD
    rw [List.getElem?_map, Array.getElem?_toList, q2]; rfl
def itOf (g : D → Option (List D)) (fa : M D) : M (List D) := bnd fa fun d => opt (g d)
theorem snd_iL (ha : Snd G W (RE G) ta fa) : Snd G W (RI G) (iList G.K ta) (itOf lstItems fa) := fun s σ B H rep =>
  At.seq (R2 := RI G) (t2 := fun (x : V) H1 R => ∃ a, x = V.ref a ∧ (∃ xs, SqL G.K H1 a xs) ∧ R (Itl G.K a) H1) (ha s σ B H rep) fun d s1 v B1 H1 e1 g1 r1 (q1 : RD G B1 d v) =>
    at_opt r1 fun ds e Q ok => by
      unfold lstItems at e
      split at e
      · cases e
        obtain ⟨a, vs, rfl, h2, h3⟩ := q1
        exact ⟨a, rfl, ⟨vs, .of (r1.ex _ _ h2)⟩, ok _ B1 H1 (.refl r1.ex) (walk_l h2 h3)⟩
      · cases e
theorem snd_iT (ha : Snd G W (RE G) ta fa) : Snd G W (RI G) (iTup G.K ta) (itOf tupItems fa) := fun s σ B H rep =>
  At.seq (R2 := RI G) (t2 := fun (x : V) H1 R => ∃ a, x = V.ref a ∧ (∃ xs, SqT G.K H1 a xs) ∧ R (Itt G.K a) H1) (ha s σ B H rep) fun d s1 v B1 H1 e1 g1 r1 (q1 : RD G B1 d v) =>
    at_opt r1 fun ds e Q ok => by
      unfold tupItems at e
      split at e
      · cases e
        obtain ⟨a, vs, rfl, h2, h3⟩ := q1
        exact ⟨a, rfl, ⟨vs, ex_t r1.ex h2⟩, ok _ B1 H1 (.refl r1.ex) (walk_t h2 h3)⟩
      · cases e
theorem snd_iS (ha : Snd G W (RE G) ta fa) : Snd G W (RI G) (iStr ta) (itOf strItems fa) := fun s σ B H rep =>
  At.seq (R2 := RI G) (t2 := fun (x : V) H1 R => ∃ z, x = V.str z ∧ R (Its z) H1) (ha s σ B H rep) fun d s1 v B1 H1 e1 g1 r1 (q1 : RD G B1 d v) =>
    at_opt r1 fun ds e Q ok => by
      unfold strItems at e
      split at e
      · cases e
        exact ⟨_, q1, ok _ B1 H1 (.refl r1.ex) walk_s⟩
      · cases e
theorem itOf_cases {g g1 g2 : D → Option (List D)} (h : ∀ d, g d = g1 d ∨ g d = g2 d) (f : M D) (s : Sl) : itOf g f s = itOf g1 f s ∨ itOf g f s = itOf g2 f s := by
  unfold itOf bnd
  cases e : f s with
  | ok d s1 =>
    rcases h d with k | k
    · exact .inl (by simp only [opt, k])
    · exact .inr (by simp only [opt, k])
  | exc x s1 => exact .inl rfl
  | no => exact .inl rfl
def ltItems : D → Option (List D)
  | .lst ds => some ds
  | .tup ds => some ds
  | _ => none
theorem snd_iSeq (ha : Snd G W (RE G) ta fa) : Snd G W (RI G) (fun σ H R => (iList G.K ta σ H R ∨ iTup G.K ta σ H R) ∨ iStr ta σ H R) (itOf seqItems fa) :=
  snd_or2 (f1 := itOf ltItems fa) (snd_or2 (snd_iL ha) (snd_iT ha) (itOf_cases (fun d => by cases d <;> simp [ltItems, lstItems, tupItems]) fa)) (snd_iS ha) (itOf_cases (fun d => by cases d <;> simp [seqItems, ltItems, strItems]) fa)
/-- range -/
def rngD (lo : Int) (n : Nat) : List D := (List.range n).map fun (i : Nat) => .int (lo + i)
theorem walk_r {lo : Int} {n : Nat} {B : Hp} : WalkD G (Itr lo n) B (rngD lo n) where
  go := fun i B2 H2 e x hi => by show i < n; simpa [rngD] using hi
  stop := fun B2 H2 e x => by show n ≤ (rngD lo n).length; simp [rngD]
  yl := fun i B2 H2 x H3 e ex hi ⟨q1, q2⟩ => by
    have hi' : i < n := by simpa [rngD] using hi
    exact ⟨B2, .int (lo + i), by rw [q1]; exact .refl ex, by simp [rngD, hi'], q2⟩
def rng1D : D → Option (List D)
  | .int j => if -(2 ^ 62) ≤ j ∧ j < 2 ^ 62 then some (rngD 0 j.toNat) else none
  | _ => none
def rng2D : D → D → Option (List D)
  | .int i, .int j => if -(2 ^ 62) ≤ i ∧ i < 2 ^ 62 ∧ -(2 ^ 62) ≤ j ∧ j < 2 ^ 62 then some (rngD i (j - i).toNat) else none
  | _, _ => none
def it2 (g : D → D → Option (List D)) (fa fb : M D) : M (List D) := bnd fa fun x => bnd fb fun y => opt (g x y)
theorem snd_rng1 (ha : Snd G W (RR G) ta fa) : Snd G W (RI G) (iRng1 (tCons ta tNil)) (itOf rng1D fa) := fun s σ B H rep =>
  at_cons1 (R := RI G) (r := fun vs H1 R => ∃ j : Int, vs = [V.int j] ∧ -(2 ^ 62) ≤ j ∧ j < 2 ^ 62 ∧ R (Itr 0 j.toNat) H1) rep ha fun d s1 v B1 H1 r1 q1 =>
    at_opt r1 fun ds e Q ok => by
      unfold rng1D at e
      split at e
      · split at e
        · rename_i hz; cases e
          exact ⟨_, by rw [show v = _ from q1], hz.1, hz.2, ok _ B1 H1 (.refl r1.ex) walk_r⟩
        · cases e
      · cases e
theorem snd_rng2 (ha : Snd G W (RE G) ta fa) (hb : Snd G W (RR G) tb fb) : Snd G W (RI G) (iRng2 (tCons ta (tCons tb tNil))) (it2 rng2D fa fb) := fun s σ B H rep =>
  At.seq (R2 := RI G) (t2 := fun (x : V) H1 R => tb σ H1 fun (y : V) H2 => ∃ i j : Int, [x, y] = [V.int i, V.int j] ∧ (-(2 ^ 62) ≤ i ∧ i < 2 ^ 62 ∧ -(2 ^ 62) ≤ j ∧ j < 2 ^ 62) ∧ R (Itr i (j - i).toNat) H2) (ha s σ B H rep) fun d s1 v B1 H1 e1 g1 r1 (q1 : RD G B1 d v) =>
    At.seq (R2 := RI G) (t2 := fun (y : V) H2 R => ∃ i j : Int, [v, y] = [V.int i, V.int j] ∧ (-(2 ^ 62) ≤ i ∧ i < 2 ^ 62 ∧ -(2 ^ 62) ≤ j ∧ j < 2 ^ 62) ∧ R (Itr i (j - i).toNat) H2) (hb s1 σ B1 H1 r1) fun d2 s2 u B2 H2 e2 g2 r2 q2 =>
      at_opt r2 fun ds e Q ok => by
        unfold rng2D at e
        split at e
        · split at e
          · rename_i hz; cases e
            exact ⟨_, _, by rw [show v = _ from q1, show u = _ from q2], hz, ok _ B2 H2 (.refl r2.ex) walk_r⟩
          · cases e
        · cases e
/-- range(a, b, c), c above 0 -/
def rng3L (a c : Int) (n : Nat) : List D := (List.range n).map fun (i : Nat) => .int (a + (i : Nat) * c)
theorem walk_r3 {a c : Int} {n : Nat} {B : Hp} : WalkD G (Itc a c n) B (rng3L a c n) where
  go := fun i B2 H2 e x hi => by
    have hi' : i < n := by simpa [rng3L] using hi
    exact (walk_rangeC (lo := a) (c := c) (n := n)).goes i H2 hi' trivial
  stop := fun B2 H2 e x => by
    have : (rng3L a c n).length = n := by simp [rng3L]
    rw [this]; exact (walk_rangeC (lo := a) (c := c) (n := n)).stops H2 trivial
  yl := fun i B2 H2 x H3 e ex hi y => by
    have hi' : i < n := by simpa [rng3L] using hi
    obtain ⟨q1, q2⟩ := (walk_rangeC (lo := a) (c := c) (n := n)).yields i H2 x H3 hi' trivial y
    exact ⟨B2, .int (a + (i : Nat) * c), by rw [q1]; exact .refl ex, by simp [rng3L, hi'], q2⟩
/-- enumerate -/
def enuD (ds : List D) : List D := (List.range ds.length).map fun (i : Nat) => .tup [.int i, ds.getD i .non]
theorem enu_get {ds : List D} {i : Nat} {d : D} (h : ds[i]? = some d) : (enuD ds)[i]? = some (.tup [.int i, d]) := by
  have hi := (List.getElem?_eq_some_iff.mp h).1
  unfold enuD
  rw [List.getElem?_map, List.getElem?_range hi]
  simp only [Option.map_some, List.getD_eq_getElem?_getD, h, Option.getD_some]
theorem enu_len (ds : List D) : (enuD ds).length = ds.length := by simp [enuD]
theorem enu_yl {ds : List D} {vs : List V} {i : Nat} {B B2 H2 H3 : Hp} {x y : V} {T : Addr} (r : RDs G B ds vs) (e : Ex B B2) (ex : Ex B2 H2) (h1 : x = .ref T) (h2 : H2 T = none) (h3 : H3 = upd H2 T (.tup [.int (i : Nat), y])) (h4 : vs[i]? = some y) :
    ∃ B3 d, GrN B2 H2 B3 H3 ∧ (enuD ds)[i]? = some d ∧ RD G B3 d x := by
  obtain ⟨d, q1, q2⟩ := r.get' h4
  subst h1 h3
  exact ⟨upd B2 T (.tup [.int (i : Nat), y]), _, .new ex h2, enu_get q1, T, [.int (i : Nat), y], rfl, .of upd_same, .cons rfl (.one (q2.mono (e.trans (.new (ex.back h2)))))⟩
theorem walk_el {a : Addr} {ds : List D} {vs : List V} {B : Hp} (h : B a = some (.lst vs)) (r : RDs G B ds vs) : WalkD G (Ite G.K a) B (enuD ds) where
  go := fun i B2 H2 e x hi => by
    rw [enu_len] at hi
    exact (walk_enum (K := G.K) (a := a) (xs := vs)).goes i H2 (by rw [r.len]; exact hi) (.of (x _ _ (e _ _ h)))
  stop := fun B2 H2 e x => by
    rw [enu_len, ← r.len]
    exact (walk_enum (K := G.K) (a := a) (xs := vs)).stops H2 (.of (x _ _ (e _ _ h)))
  yl := fun i B2 H2 x H3 e ex hi ⟨T, y, h1, h2, h3, h4⟩ => enu_yl r e ex h1 h2 h3 (h4 vs (.of (ex _ _ (e _ _ h))))
theorem walk_et {a : Addr} {ds : List D} {vs : List V} {B : Hp} (h : SqT G.K B a vs) (r : RDs G B ds vs) : WalkD G (IteT G.K a) B (enuD ds) where
  go := fun i B2 H2 e x hi => by
    rw [enu_len] at hi
    exact ⟨vs, vs[i]'(by rw [r.len]; exact hi), ex_t x (ex_t e h), by simp [r.len, hi]⟩
  stop := fun B2 H2 e x => ⟨vs, ex_t x (ex_t e h), by rw [enu_len, r.len]⟩
  yl := fun i B2 H2 x H3 e ex hi ⟨T, y, h1, h2, h3, h4⟩ => enu_yl r e ex h1 h2 h3 (h4 vs (ex_t ex (ex_t e h)))
def enuL : D → Option (List D)
  | .lst ds => some (enuD ds)
  | _ => none
def enuT : D → Option (List D)
  | .tup ds => some (enuD ds)
  | _ => none
def enuU : D → Option (List D)
  | .lst ds => some (enuD ds)
  | .tup ds => some (enuD ds)
  | _ => none
theorem snd_enuL (ha : Snd G W (RE G) ta fa) : Snd G W (RI G) (iEnum G.K (tCons ta tNil)) (itOf enuL fa) := fun s σ B H rep =>
  At.seq (R2 := RI G) (t2 := fun (x : V) H1 R => ∃ a xs, [x] = [V.ref a] ∧ SqL G.K H1 a xs ∧ R (Ite G.K a) H1) (ha s σ B H rep) fun d s1 v B1 H1 e1 g1 r1 (q1 : RD G B1 d v) =>
    at_opt r1 fun ds e Q ok => by
      unfold enuL at e
      split at e
      · cases e
        obtain ⟨a, vs, rfl, h2, h3⟩ := q1
        exact ⟨a, vs, rfl, .of (r1.ex _ _ h2), ok _ B1 H1 (.refl r1.ex) (walk_el h2 h3)⟩
      · cases e
theorem snd_enuT (ha : Snd G W (RE G) ta fa) : Snd G W (RI G) (iEnumT G.K (tCons ta tNil)) (itOf enuT fa) := fun s σ B H rep =>
  At.seq (R2 := RI G) (t2 := fun (x : V) H1 R => ∃ a xs, [x] = [V.ref a] ∧ SqT G.K H1 a xs ∧ R (IteT G.K a) H1) (ha s σ B H rep) fun d s1 v B1 H1 e1 g1 r1 (q1 : RD G B1 d v) =>
    at_opt r1 fun ds e Q ok => by
      unfold enuT at e
      split at e
      · cases e
        obtain ⟨a, vs, rfl, h2, h3⟩ := q1
        exact ⟨a, vs, rfl, ex_t r1.ex h2, ok _ B1 H1 (.refl r1.ex) (walk_et h2 h3)⟩
      · cases e
theorem snd_enu (ha : Snd G W (RE G) ta fa) : Snd G W (RI G) (fun σ H R => iEnum G.K (tCons ta tNil) σ H R ∨ iEnumT G.K (tCons ta tNil) σ H R) (itOf enuU fa) :=
  snd_or2 (snd_enuL ha) (snd_enuT ha) (itOf_cases (fun d => by cases d <;> simp [enuU, enuL, enuT]) fa)
end
end DL

/-! ## DLu -/
namespace DL
open PySem L2
section
variable {G : Tb} {W : WX} {fx : List Nat} {ta tb tc : TE} {fa fb fc : M D}
/-! ### slices -/
def cutD {α : Type} (xs : List α) (lo hi : Option Int) : List α := (xs.drop (HT.sIx xs.length 0 lo)).take (HT.sIx xs.length xs.length hi - HT.sIx xs.length 0 lo)
theorem cut_rd {B : Hp} {ds : List D} {vs : List V} (h : RDs G B ds vs) (lo hi : Option Int) : RDs G B (cutD ds lo hi) (cutV vs lo hi) := by
  unfold cutD cutV
  rw [h.len]
  exact (h.drop _).take _
def RO : RL (Option Int) (Option Int) := fun _ _ _ a b => a = b
instance : Back RO := ⟨fun _ h => h⟩
def oNone : M (Option Int) := ret none
def asI : D → Option (Option Int)
  | .int i => some (some i)
  | _ => none
def oSome (fa : M D) : M (Option Int) := bnd fa fun d => opt (asI d)
theorem snd_oNone : Snd G W RO tNoPart oNone := fun s σ B H rep => At.val rep rfl rfl
theorem snd_oSome (ha : Snd G W (RE G) ta fa) : Snd G W RO (tPart ta) (oSome fa) := fun s σ B H rep =>
  At.seq (R2 := RO) (t2 := fun (x : V) H1 Q => ∃ i, x = V.int i ∧ Q (some i) H1) (ha s σ B H rep) fun d s1 v B1 H1 e1 g1 r1 (q1 : RD G B1 d v) =>
    at_opt r1 fun o e Q ok => by
      unfold asI at e
      split at e
      · cases e; exact ⟨_, q1, ok _ B1 H1 (.refl r1.ex) rfl⟩
      · cases e
abbrev R3 := V → Option Int → Option Int → Hp → VK → Prop
def SlF (G : Tb) (r : R3) (g : D → Option Int → Option Int → Option D) : Prop := ∀ B H x v lo hi d, Ex B H → RDo G B H x v → g x lo hi = some d → ∀ Q : VK, (∀ p B' H', GrN B H B' H' → H p = none → B' p = none → OwnAt G B' H' p d → Q (.ref p) H') → r v lo hi H Q
def SlE (G : Tb) (r : R3) (g : D → Option Int → Option Int → Option D) : Prop := ∀ B H x v lo hi d, Ex B H → RDo G B H x v → g x lo hi = some d → ∀ Q : VK, (∀ w B' H', GrN B H B' H' → RD G B' d w → Q w H') → r v lo hi H Q
def eSl (g : D → Option Int → Option Int → Option D) (fa : M D) (fl fh : M (Option Int)) : M D := bnd fa fun x => bnd fl fun lo => bnd fh fun hi => opt (g x lo hi)
variable {tl th : TO} {fl fh : M (Option Int)} {r3 : R3} {g3 : D → Option Int → Option Int → Option D}
theorem snd_slE (ho : SlE G r3 g3) (ha : Snd G W (RE G) ta fa) (hl : Snd G W RO tl fl) (hh : Snd G W RO th fh) : Snd G W (RE G) (tSl r3 ta tl th) (eSl g3 fa fl fh) := fun s σ B H rep =>
  At.seq (R2 := RE G) (t2 := fun (x : V) H1 Q => tl σ H1 fun l H2 => th σ H2 fun u H3 => r3 x l u H3 Q) (ha s σ B H rep) fun d s1 v B1 H1 e1 g1 r1 (q1 : RD G B1 d v) =>
    At.seq (R2 := RE G) (t2 := fun (l : Option Int) H2 Q => th σ H2 fun u H3 => r3 v l u H3 Q) (hl s1 σ B1 H1 r1) fun lo s2 l B2 H2 e2 g2 r2 (q2 : lo = l) =>
      At.seq (R2 := RE G) (t2 := fun (u : Option Int) H3 Q => r3 v l u H3 Q) (hh s2 σ B2 H2 r2) fun hi s3 u B3 H3 e3 g3' r3' (q3 : hi = u) => by
        subst q2; subst q3
        exact at_opt r3' fun d' e Q ok => ho B3 H3 d v lo hi d' r3'.ex (RD.toO r3'.ex ((q1.mono g2.b).mono g3'.b)) e Q ok
theorem snd_slF (ho : SlF G r3 g3) (ha : Snd G W (RE G) ta fa) (hl : Snd G W RO tl fl) (hh : Snd G W RO th fh) : Snd G W (RF G) (tSl r3 ta tl th) (eSl g3 fa fl fh) := fun s σ B H rep =>
  At.seq (R2 := RF G) (t2 := fun (x : V) H1 Q => tl σ H1 fun l H2 => th σ H2 fun u H3 => r3 x l u H3 Q) (ha s σ B H rep) fun d s1 v B1 H1 e1 g1 r1 (q1 : RD G B1 d v) =>
    At.seq (R2 := RF G) (t2 := fun (l : Option Int) H2 Q => th σ H2 fun u H3 => r3 v l u H3 Q) (hl s1 σ B1 H1 r1) fun lo s2 l B2 H2 e2 g2 r2 (q2 : lo = l) =>
      At.seq (R2 := RF G) (t2 := fun (u : Option Int) H3 Q => r3 v l u H3 Q) (hh s2 σ B2 H2 r2) fun hi s3 u B3 H3 e3 g3' r3' (q3 : hi = u) => by
        subst q2; subst q3
        exact at_opt r3' fun d' e Q ok => ho B3 H3 d v lo hi d' r3'.ex (RD.toO r3'.ex ((q1.mono g2.b).mono g3'.b)) e Q fun p B' H' gr h1 h2 h3 => ok _ B' H' gr ⟨p, rfl, h1, h2, h3⟩
def slL : D → Option Int → Option Int → Option D
  | .lst ds, lo, hi => some (.lst (cutD ds lo hi))
  | .scr ns, lo, hi => some (.lst ((cutD ns lo hi).map .int))
  | _, _, _ => none
theorem cut_map (ns : List Int) (lo hi : Option Int) : cutV (ns.map V.int) lo hi = (cutD ns lo hi).map V.int := by
  unfold cutV cutD
  rw [List.length_map, List.map_take, List.map_drop]
theorem slF_L : SlF G (rSlL G.K) slL := by
  intro B H x v lo hi d ex rx e Q q
  unfold slL at e
  split at e
  · cases e
    obtain ⟨a, vs, rfl, h2, h3⟩ := rx
    exact ⟨a, vs, rfl, .of h2, fun p hp => q p B _ (.newF ex hp) hp (ex.back hp) ⟨_, upd_same, cut_rd h3 lo hi⟩⟩
  · cases e
    obtain ⟨a, rfl, h2⟩ := rx
    exact ⟨a, _, rfl, ex_l ex h2, fun p hp => q p B _ (.newF ex hp) hp (ex.back hp) ⟨_, upd_same, by rw [cut_map]; exact RDs.of_ints _⟩⟩
  · cases e
theorem SlF.slE {r : R3} {g : D → Option Int → Option Int → Option D} (a : SlF G r g) : SlE G r g := fun B H x v lo hi d ex rx e Q q => a B H x v lo hi d ex rx e Q fun p B' H' gr hp hb hO => by
  obtain ⟨o, ho, hr⟩ := hO.freeze hb
  refine q _ (upd B' p o) H' ⟨gr.b.trans (.new hb), gr.h, fun c w z => ?_, fun c z => ?_⟩ hr
  · by_cases k : c = p
    · subst k; rw [upd_same] at z; rw [ho]; exact z
    · rw [upd_ne k] at z; exact gr.ex c w z
  · by_cases k : c = p
    · exact .inr (k ▸ hp)
    · rw [upd_ne k] at z; exact gr.nw c z
theorem UnF.unE {r : V → Hp → VK → Prop} {g : D → Option D} (a : UnF G r g) : UnE G r g := fun B H x v d ex rx e Q q => a B H x v d ex rx e Q fun p B' H' gr hp hb hO => by
  obtain ⟨o, ho, hr⟩ := hO.freeze hb
  refine q _ (upd B' p o) H' ⟨gr.b.trans (.new hb), gr.h, fun c w z => ?_, fun c z => ?_⟩ hr
  · by_cases k : c = p
    · subst k; rw [upd_same] at z; rw [ho]; exact z
    · rw [upd_ne k] at z; exact gr.ex c w z
  · by_cases k : c = p
    · exact .inr (k ▸ hp)
    · rw [upd_ne k] at z; exact gr.nw c z
def slS : D → Option Int → Option Int → Option D
  | .str z, lo, hi => if z.length ≤ sizeLine then some (.str (cutS z lo hi)) else none
  | _, _, _ => none
theorem slE_S : SlE G rSlS slS := by
  intro B H x v lo hi d ex rx e Q q
  unfold slS at e
  split at e
  · split at e
    · rename_i hz; cases e; exact ⟨_, rx, hz, q _ B H (.refl ex) rfl⟩
    · cases e
  · cases e
/-- of a tuple: the whole one is itself, not served -/
def slT : D → Option Int → Option Int → Option D
  | .tup ds, lo, hi => if HT.sIx ds.length 0 lo = 0 ∧ HT.sIx ds.length ds.length hi = ds.length then none else some (.tup (cutD ds lo hi))
  | _, _, _ => none
theorem slE_T : SlE G (rSlT G.K) slT := by
  intro B H x v lo hi d ex rx e Q q
  unfold slT at e
  split at e
  · split at e
    · cases e
    · rename_i hz; cases e
      obtain ⟨a, vs, rfl, h2, h3⟩ := rx
      refine ⟨a, vs, rfl, ex_t ex h2, by rw [h3.len]; exact hz, fun p hp => ?_⟩
      exact q _ _ _ (.new ex hp) ⟨p, _, rfl, .of upd_same, (cut_rd h3 lo hi).mono (.new (ex.back hp))⟩
  · cases e
def orSl (g h : D → Option Int → Option Int → Option D) : D → Option Int → Option Int → Option D := fun x lo hi => match g x lo hi with
  | some d => some d
  | none => h x lo hi
theorem slE_or {r r' : R3} {g h : D → Option Int → Option Int → Option D} (a : SlE G r g) (b : SlE G r' h) : SlE G (fun x l u H Q => r x l u H Q ∨ r' x l u H Q) (orSl g h) := by
  intro B H x v lo hi d ex rx e Q q
  unfold orSl at e
  split at e
  · rename_i e1; cases e; exact .inl (a B H x v lo hi _ ex rx e1 Q q)
  · exact .inr (b B H x v lo hi _ ex rx e Q q)
def rSlU (K : PySem.W.Frag) : R3 := fun x l u H Q => rSlL K x l u H Q ∨ (rSlT K x l u H Q ∨ rSlS x l u H Q)
theorem sl_U {X : Cx} : L2.SlR X (rSlU X.K) := L2.SlR.or sl_list (L2.SlR.or sl_tup sl_str)
def slD := orSl slL (orSl slT slS)
theorem slE_U : SlE G (rSlU G.K) slD := slE_or slF_L.slE (slE_or slE_T slE_S)
theorem slF_U : SlF G (rSlU G.K) slL := fun B H x v lo hi d ex rx e Q q => .inl (slF_L B H x v lo hi d ex rx e Q q)
/-! ### built-ins of one argument -/
def orU (g h : D → Option D) : D → Option D := fun x => match g x with
  | some d => some d
  | none => h x
theorem unE_or {r r' : V → Hp → VK → Prop} {g h : D → Option D} (a : UnE G r g) (b : UnE G r' h) : UnE G (fun x H Q => r x H Q ∨ r' x H Q) (orU g h) := by
  intro B H x v d ex rx e Q q
  unfold orU at e
  split at e
  · rename_i e1; cases e; exact .inl (a B H x v _ ex rx e1 Q q)
  · exact .inr (b B H x v _ ex rx e Q q)
def lenD : D → Option D
  | .lst ds => some (.int (ds.length : Nat))
  | .tup ds => some (.int (ds.length : Nat))
  | .str z => if z.length ≤ sizeLine then some (.int (z.length : Nat)) else none
  | .dct ds => some (.int (ds.length : Nat))
  | _ => none
def rLenU (K : PySem.W.Frag) : List V → Hp → VK → Prop := fun xs H Q => ((∃ p ys, xs = [.ref p] ∧ (SqL K H p ys ∨ SqT K H p ys) ∧ Q (.int ys.length) H) ∨ (∃ z, xs = [.str z] ∧ z.length ≤ sizeLine ∧ Q (.int z.length) H)) ∨ ∃ a kvs, xs = [V.ref a] ∧ H a = some (.dK kvs) ∧ Q (.int (kvs.length : Nat)) H
theorem unE_len : UnE G (Un1 (rLenU G.K)) lenD := by
  intro B H x v d ex rx e Q q
  unfold lenD at e
  split at e
  · cases e
    obtain ⟨a, vs, rfl, h2, h3⟩ := rx
    exact .inl (.inl ⟨a, vs, rfl, .inl (.of h2), by rw [h3.len]; exact q _ B H (.refl ex) rfl⟩)
  · cases e
    obtain ⟨a, vs, rfl, h2, h3⟩ := rx
    exact .inl (.inl ⟨a, vs, rfl, .inr (ex_t ex h2), by rw [h3.len]; exact q _ B H (.refl ex) rfl⟩)
  · split at e
    · rename_i hz; cases e
      exact .inl (.inr ⟨_, by rw [show v = _ from rx], hz, q _ B H (.refl ex) rfl⟩)
    · cases e
  · cases e
    obtain ⟨a, vs, rfl, h2, h3⟩ := rx
    exact .inr ⟨a, vs, rfl, h2, by rw [h3.len]; exact q _ B H (.refl ex) rfl⟩
  · cases e
def intD : D → Option D
  | .int i => some (.int i)
  | .bl b => some (.int (if b then 1 else 0))
  | _ => none
theorem unE_int : UnE G (Un1 (fun xs H Q => (∃ i, xs = [.int i] ∧ Q (.int i) H) ∨ ∃ k, xs = [.bl k] ∧ Q (.int (if k then 1 else 0)) H)) intD := by
  intro B H x v d ex rx e Q q
  unfold intD at e
  split at e
  · cases e; exact .inl ⟨_, by rw [show v = _ from rx], q _ B H (.refl ex) rfl⟩
  · cases e; exact .inr ⟨_, by rw [show v = _ from rx], q _ B H (.refl ex) rfl⟩
  · cases e
def listD : D → Option D
  | .lst ds => some (.lst ds)
  | .tup ds => some (.lst ds)
  | .scr ns => some (.lst (ns.map .int))
  | _ => none
theorem unF_list : UnF G (Un1 (fun xs H Q => ∃ p ys, xs = [.ref p] ∧ (SqL G.K H p ys ∨ SqT G.K H p ys) ∧ ∀ l, H l = none → Q (.ref l) (upd H l (.lst ys)))) listD := by
  intro B H x v d ex rx e Q q
  unfold listD at e
  split at e
  · cases e
    obtain ⟨a, vs, rfl, h2, h3⟩ := rx
    exact ⟨a, vs, rfl, .inl (.of h2), fun p hp => q p B _ (.newF ex hp) hp (ex.back hp) ⟨_, upd_same, h3⟩⟩
  · cases e
    obtain ⟨a, vs, rfl, h2, h3⟩ := rx
    exact ⟨a, vs, rfl, .inr (ex_t ex h2), fun p hp => q p B _ (.newF ex hp) hp (ex.back hp) ⟨_, upd_same, h3⟩⟩
  · cases e
    obtain ⟨a, rfl, h2⟩ := rx
    exact ⟨a, _, rfl, .inl (ex_l ex h2), fun p hp => q p B _ (.newF ex hp) hp (ex.back hp) ⟨_, upd_same, RDs.of_ints _⟩⟩
  · cases e
def tupleD : D → Option D
  | .lst ds => some (.tup ds)
  | .tup ds => some (.tup ds)
  | _ => none
theorem unE_tuple : UnE G (Un1 (fun xs H Q => ∃ p ys, xs = [.ref p] ∧ ((SqL G.K H p ys ∧ ∀ l, H l = none → Q (.ref l) (upd H l (.tup ys))) ∨ (SqT G.K H p ys ∧ Q (.ref p) H)))) tupleD := by
  intro B H x v d ex rx e Q q
  unfold tupleD at e
  split at e
  · cases e
    obtain ⟨a, vs, rfl, h2, h3⟩ := rx
    exact ⟨a, vs, rfl, .inl ⟨.of h2, fun p hp => q _ _ _ (.new ex hp) ⟨p, vs, rfl, .of upd_same, h3.mono (.new (ex.back hp))⟩⟩⟩
  · cases e
    obtain ⟨a, vs, rfl, h2, h3⟩ := rx
    exact ⟨a, vs, rfl, .inr ⟨ex_t ex h2, q _ B H (.refl ex) ⟨a, vs, rfl, h2, h3⟩⟩⟩
  · cases e
def strD : D → Option D
  | .int i => if i.natAbs.log2 < 1920 then some (.str (toString i)) else none
  | _ => none
theorem unE_str : UnE G (Un1 (fun xs H Q => ∃ i, xs = [.int i] ∧ i.natAbs.log2 < 1920 ∧ Q (.str (toString i)) H)) strD := by
  intro B H x v d ex rx e Q q
  unfold strD at e
  split at e
  · split at e
    · rename_i hz; cases e; exact ⟨_, by rw [show v = _ from rx], hz, q _ B H (.refl ex) rfl⟩
    · cases e
  · cases e
def blsD : List D → Option (List Bool)
  | [] => some []
  | .bl b :: r => (blsD r).map (b :: ·)
  | _ :: _ => none
theorem bls_map : ∀ {ds : List D} {bs : List Bool}, blsD ds = some bs → ds = bs.map .bl
  | [], bs, e => by cases e; rfl
  | d :: ds, bs, e => by
    cases d <;> simp only [blsD] at e <;> first | cases e | skip
    obtain ⟨r, h1, rfl⟩ := Option.map_eq_some_iff.mp e
    rw [bls_map h1]; rfl
def allD : D → Option D
  | .lst ds => (blsD ds).map fun bs => .bl (bs.all id)
  | _ => none
def anyD : D → Option D
  | .lst ds => (blsD ds).map fun bs => .bl (bs.any id)
  | _ => none
theorem unE_all : UnE G (Un1 (rAll G.K)) allD := by
  intro B H x v d ex rx e Q q
  unfold allD at e
  split at e
  · obtain ⟨bs, h1, rfl⟩ := Option.map_eq_some_iff.mp e
    obtain ⟨a, vs, rfl, h2, h3⟩ := rx
    rw [bls_map h1] at h3
    exact ⟨a, bs, rfl, by rw [← h3.bls]; exact .of h2, q _ B H (.refl ex) rfl⟩
  · cases e
theorem unE_any : UnE G (Un1 (rAny G.K)) anyD := by
  intro B H x v d ex rx e Q q
  unfold anyD at e
  split at e
  · obtain ⟨bs, h1, rfl⟩ := Option.map_eq_some_iff.mp e
    obtain ⟨a, vs, rfl, h2, h3⟩ := rx
    rw [bls_map h1] at h3
    exact ⟨a, bs, rfl, by rw [← h3.bls]; exact .of h2, q _ B H (.refl ex) rfl⟩
  · cases e
def min2D : D → D → Option D := i2 fun i j => .int (if j < i then j else i)
def max2D : D → D → Option D := i2 fun i j => .int (if j > i then j else i)
theorem opE_min2 : OpE G (Un2 (fun xs H Q => ∃ i j, xs = [.int i, .int j] ∧ Q (.int (if j < i then j else i)) H)) min2D := by
  intro B H x y v u d ex rx ry e Q q
  unfold min2D i2 at e
  split at e
  · cases e; exact ⟨_, _, by rw [show v = _ from rx, show u = _ from ry], q _ B H (.refl ex) rfl⟩
  · cases e
theorem opE_max2 : OpE G (Un2 (fun xs H Q => ∃ i j, xs = [.int i, .int j] ∧ Q (.int (if j > i then j else i)) H)) max2D := by
  intro B H x y v u d ex rx ry e Q q
  unfold max2D i2 at e
  split at e
  · cases e; exact ⟨_, _, by rw [show v = _ from rx, show u = _ from ry], q _ B H (.refl ex) rfl⟩
  · cases e
/-- list(range(n)) -/
def lrg1D : D → Option D
  | .int n => if -(2 ^ 62) ≤ n ∧ n ≤ 2 ^ 24 then some (.lst (rngD 0 n.toNat)) else none
  | _ => none
theorem rng_rd {B : Hp} (lo : Int) (n : Nat) : RDs G B (rngD lo n) ((List.range n).map fun (i : Nat) => V.int (lo + (i : Nat))) := by
  unfold rngD
  generalize List.range n = l
  induction l with
  | nil => exact rfl
  | cons i r ih => exact .cons rfl ih
theorem snd_lrg1 (ha : Snd G W (RE G) ta fa) : Snd G W (RF G) (tLstRg (tRg1 ta)) (eUn lrg1D fa) := fun s σ B H rep =>
  At.seq (R2 := RF G) (t2 := fun (x : V) H1 Q => ∃ n, x = V.int n ∧ (RgOk 0 n ∧ ∀ q, H1 q = none → Q (V.ref q) (upd H1 q (.lst (rgV 0 n))))) (ha s σ B H rep) fun d s1 v B1 H1 e1 g1 r1 (q1 : RD G B1 d v) =>
    at_opt r1 fun o e Q ok => by
      unfold lrg1D at e
      split at e
      · split at e
        · rename_i n hz; cases e
          refine ⟨n, q1, ⟨by decide, by decide, hz.1, by omega, by omega⟩, fun q hq => ?_⟩
          refine ok _ B1 _ (.newF r1.ex hq) ⟨q, rfl, hq, r1.ex.back hq, _, upd_same, ?_⟩
          have := rng_rd (G := G) (B := B1) 0 n.toNat
          unfold rgV
          rw [Int.sub_zero]
          exact this
        · cases e
      · cases e
/-! ### methods of texts and ints -/
def splitD : D → D → Option D
  | .str a, .str b => if (b.length == 0) = false ∧ a.length + 2 ≤ sizeLine then some (.lst ((Txt.split a b).map .str)) else none
  | _, _ => none
abbrev rSplit : V → List V → Hp → VK → Prop := fun x xs H Q => ∃ a b, x = V.str a ∧ xs = [V.str b] ∧ (b.length == 0) = false ∧ a.length + 2 ≤ sizeLine ∧ rNewStrs (Txt.split a b) H Q
def asStr : D → Option Unit
  | .str _ => some ()
  | _ => none
/-- s.m(e) -/
def eStr1 (g : D → D → Option D) (fa fb : M D) : M D := bnd fa fun x => bnd (opt (asStr x)) fun _ => bnd fb fun y => opt (g x y)
abbrev Mt1 (r : V → List V → Hp → VK → Prop) : R2 := fun x y => r x [y]
variable {rm : V → List V → Hp → VK → Prop} {gm : D → D → Option D}
theorem at_str {β α : Type} {R : RL α β} {s : Sl} {σ : St} {B H : Hp} {d : D} {v : V} {k : M α} {t : (β → Hp → Prop) → Prop} (rd : RD G B d v) (h : At G W R k s σ B H t) : At G W R (bnd (opt (asStr d)) fun _ => k) s σ B H (fun Q => (∃ z, v = V.str z) ∧ t Q) := by
  cases d with
  | str z => exact fun Q ok exc nn => ⟨⟨z, rd⟩, h Q (fun a s' b B' H' e => ok a s' b B' H' e) (fun x s' dd B' H' e => exc x s' dd B' H' e) fun e => nn e⟩
  | _ => exact fun Q ok exc nn => absurd rfl nn
theorem snd_m1 (ho : OpE G (Mt1 rm) gm) (ha : Snd G W (RE G) ta fa) (hb : Snd G W (RR G) tb fb) : Snd G W (RE G) (tM1 rm ta tb) (eStr1 gm fa fb) := fun s σ B H rep =>
  At.seq (R2 := RE G) (t2 := fun (x : V) H1 Q => (∃ a, x = .str a) ∧ tb σ H1 fun y H2 => rm x [y] H2 Q) (ha s σ B H rep) fun d s1 v B1 H1 e1 g1 r1 (q1 : RD G B1 d v) =>
    at_str q1 (At.seq (R2 := RE G) (t2 := fun (y : V) H2 Q => rm v [y] H2 Q) (hb s1 σ B1 H1 r1) fun d2 s2 u B2 H2 e2 g2 r2 q2 => at_opE (r := Mt1 rm) ho r2 (RD.toO r2.ex (q1.mono g2.b)) q2)
theorem snd_m1F (ho : OpF G (Mt1 rm) gm) (ha : Snd G W (RE G) ta fa) (hb : Snd G W (RR G) tb fb) : Snd G W (RF G) (tM1 rm ta tb) (eStr1 gm fa fb) := fun s σ B H rep =>
  At.seq (R2 := RF G) (t2 := fun (x : V) H1 Q => (∃ a, x = .str a) ∧ tb σ H1 fun y H2 => rm x [y] H2 Q) (ha s σ B H rep) fun d s1 v B1 H1 e1 g1 r1 (q1 : RD G B1 d v) =>
    at_str q1 (At.seq (R2 := RF G) (t2 := fun (y : V) H2 Q => rm v [y] H2 Q) (hb s1 σ B1 H1 r1) fun d2 s2 u B2 H2 e2 g2 r2 q2 => at_opF (r := Mt1 rm) ho r2 (RD.toO r2.ex (q1.mono g2.b)) q2)
theorem opF_split : OpF G (Mt1 rSplit) splitD := by
  intro B H x y v u d ex rx ry e Q q
  unfold splitD at e
  split at e
  · split at e
    · rename_i a b hz
      cases e
      exact ⟨a, b, rx, by rw [show u = _ from ry], hz.1, hz.2, fun p hp => q p B _ (.newF ex hp) hp (ex.back hp) ⟨_, upd_same, RDs.of_strs _⟩⟩
    · cases e
  · cases e
theorem snd_split (ha : Snd G W (RE G) ta fa) (hb : Snd G W (RE G) tb fb) : Snd G W (RF G) (tM1 rSplit ta tb) (eStr1 splitD fa fb) := snd_m1F opF_split ha hb.rd
end
end DL

/-! ## DLv -/
namespace L2
open PySem PySem.Spec PyProof.Rows
section
variable {X : Cx}
/-- range(n) as a value -/
theorem cr_range1 : CallR X (.type "range") (fun vs H Q => ∃ j, vs = [V.int j] ∧ ∀ p, H p = none → Q (.ref p) (upd H p (.rng 0 j))) := by
  intro pins s σ H vs us Q I r h
  obtain ⟨j, rfl, q⟩ := h
  obtain ⟨u1, rfl, rj⟩ := vals1 r
  obtain ⟨u, rfl⟩ := rj
  refine call_range_1 ⟨.ref s.heap.objs.size, upd H s.heap.objs.size (.rng 0 j), I.laid (t' := s.toks + 2) (fun b o e => Heap.get?_push_of_some _ e) (Nat.le_refl _) ?_, rfl, q _ (I.hok.fresh (Nat.le_refl _))⟩
  exact ⟨_, u, _, Heap.get?_push_size _ rfl⟩
/-- a range that stands in a name is walked -/
def iRngV (ta : TE) : TI := fun σ H R => ta σ H fun x H1 => ∃ a lo hi, x = V.ref a ∧ H1 a = some (.rng lo hi) ∧ -(2 ^ 62) ≤ lo ∧ lo < 2 ^ 62 ∧ -(2 ^ 62) ≤ hi ∧ hi < 2 ^ 62 ∧ R (Itr lo (hi - lo).toNat) H1
theorem pi_rngV {tg e : Expr} {ta : TE} (ha : PE X e ta) : PI X tg e (iRngV ta) := by
  refine ⟨fun pins s σ H R I h => thn (ha.run pins s σ H _ I h) fun v s1 ⟨x, H1, I1, r1, q1⟩ => ?_⟩
  obtain ⟨a, lo, hi, rfl, ho, h1, h2, h3, h4, q⟩ := q1
  obtain rfl : v = Value.ref a := r1
  obtain ⟨t, u, v, hr⟩ := I1.hok a _ ho
  refine wpAny_pyIter_range hr (small_one h1 h2 h3 h4) ?_
  refine pi_one (tk := s1.toks) I1 _ (turn_range _ lo (hi - lo).toNat) ?_ q
  have e1 : lo + ((0 : Nat) : Int) * 1 = lo := by simp
  have e2 : (((hi - lo).toNat : Nat) : Int) - ((0 : Nat) : Int) = Builtin.Range.rangeSize lo hi 1 := by rw [rangeSize_one]; split <;> omega
  show IsRangeIter _ _ (lo + ((0 : Nat) : Int) * 1) ((((hi - lo).toNat : Nat) : Int) - ((0 : Nat) : Int)) 1
  rw [e1, e2]
  exact Heap.get?_push_size _ rfl
/-- all(xs), xs a list of data -/
def rAllD (K : PySem.W.Frag) : List V → Hp → VK → Prop := fun vs H Q => ∃ (a : Addr) (xs : List V) (ds : List PyData), vs = [V.ref a] ∧ SqL K H a xs ∧ DpAll K H xs ds ∧ PyData.plainAll ds = true ∧ (∀ x ∈ ds, x.fits63) ∧ Q (.bl (ds.all PyData.truthy)) H
theorem cr_allD (hc : X.calm = true) : CallR X (.builtin "all") (rAllD X.K) := by
  intro pins s σ H vs us Q I r h
  obtain ⟨a, xs, ds, rfl, hs, hd, hp, hf, q⟩ := h
  obtain ⟨its, rv, hl, hz⟩ := I.list hs
  rw [Vals.ref1 r]
  obtain ⟨as, hr⟩ := Dp.readsAll I ds _ its hd rv
  exact PySem.W.all_list_data (I.ok.hd hc) hl.isList (by simpa using hr) hp hf fun h' tk hk => ⟨.bl _, H, I.kept hk, rfl, q⟩
/-- sorted(xs), xs a list of data that are alike: the same things in order -/
def rSortedA (K : PySem.W.Frag) : List V → Hp → VK → Prop := fun vs H Q => ∃ (β : Type) (a : Addr) (bs : List (V × β)) (enc : β → PyData), vs = [V.ref a] ∧ SqL K H a (bs.map (·.1)) ∧ (∀ b ∈ bs, Dp K H b.1 (enc b.2)) ∧ PySem.W.AllAlike (bs.map fun b => enc b.2) ∧ PySem.W.Sortable (bs.map fun b => enc b.2) ∧ (∀ b ∈ bs, (enc b.2).depth ≤ 50) ∧
  ∀ p, H p = none → Q (.ref p) (upd H p (.lst ((bs.mergeSort (PySem.W.dataLe false fun b => enc b.2)).map (·.1))))
theorem each_of_vals {β : Type} : ∀ {bs : List (V × β)} {us : List Value}, Vals (bs.map (·.1)) us → PySem.W.EachIs (fun (u : Value) (b : V × β) => RelV b.1 u) us bs
  | [], _, .nil => .nil
  | _ :: _, _, .cons r t => .cons r (each_of_vals t)
theorem vals_of_each {β : Type} : ∀ {bs : List (V × β)} {us : List Value}, PySem.W.EachIs (fun (u : Value) (b : V × β) => RelV b.1 u) us bs → Vals (bs.map (·.1)) us
  | [], _, .nil => .nil
  | _ :: _, _, .cons r t => .cons r (vals_of_each t)
theorem each_reads {β : Type} {enc : β → PyData} {pins : List (Addr × Obj)} {σ : St} {H : Hp} {s : Shared} (I : Inv X pins σ H s) : ∀ {bs : List (V × β)} {us : List Value}, Vals (bs.map (·.1)) us → (∀ b ∈ bs, Dp X.K H b.1 (enc b.2)) → PySem.W.EachIs (fun (u : Value) (b : V × β) => ∃ as, Reads s.heap u (enc b.2) as) us bs
  | [], _, .nil, _ => .nil
  | b :: _, _, .cons r t, h => .cons (Dp.reads I _ _ _ (h b List.mem_cons_self) r) (each_reads I t fun c hc => h c (List.mem_cons_of_mem _ hc))
theorem cr_sortedA (hu : X.A.units + 60 < cLine) : CallR X (.builtin "sorted") (rSortedA X.K) := by
  intro pins s σ H vs us Q I r h
  obtain ⟨β, a, bs, enc, rfl, hs, hd, hal, hk, hdp, q⟩ := h
  obtain ⟨its, rv, hl, hz⟩ := I.list hs
  rw [Vals.ref1 r]
  refine PySem.W.sorted_data (s := s) (vs := its) (R := fun (u : Value) (b : V × β) => RelV b.1 u) (enc := fun b => enc b.2) (by simpa using hl.isList) (each_of_vals rv) (each_reads I rv hd) hal hk ?_ (fun b hb => by have := hdp b hb; omega) fun out hlen he => ?_
  · rw [List.length_map] at hz; exact hz
  · obtain ⟨ep, he'⟩ := PyProof.Rows.sortedAll_at s.heap its out.toArray
    have rv' := vals_of_each he
    have hlen' : ((bs.mergeSort (PySem.W.dataLe false fun b => enc b.2)).map (·.1)).length ≤ sizeLine := by
      rw [List.length_map, List.length_mergeSort]; rw [List.length_map] at hz; exact hz
    exact ⟨.ref _, upd H (s.heap.objs.size + 1) (.lst ((bs.mergeSort (PySem.W.dataLe false fun b => enc b.2)).map (·.1))), I.laid (t' := s.toks) (fun _ _ => PyProof.Rows.sortedAll_old) (Nat.le_succ _) ⟨hlen', out, ep, rv', he'⟩, rfl, q _ (I.hok.fresh (Nat.le_succ _))⟩
/-- len(set(xs)), xs a list of ints -/
def tLenSetU (K : PySem.W.Frag) (ta : TE) : TE := fun σ H Q => ta σ H fun x H1 => ∃ (l : Addr) (ns : List Int), x = .ref l ∧ SqL K H1 l (ns.map V.int) ∧ ns.length ≤ 4000 ∧ Q (.int ((ns.foldl step_dedup []).length : Nat)) H1
theorem getD_map (ns : List Int) : (List.range ns.length).map (fun i => ns.getD i 0) = ns := by
  refine List.ext_getElem (by simp) fun i h1 h2 => ?_
  simp only [List.getElem_map, List.getElem_range]
  rw [List.getD_eq_getElem?_getD, List.getElem?_eq_getElem h2]; rfl
theorem pe_lenSetU {a : Expr} {ta : TE} {p p2 q pos : Pos} (hg : Gl X "len") (hm : X.mg "len" = none) (hg2 : Gl X "set") (hm2 : X.mg "set" = none) (ha : PE X a ta) (hc : X.calm = true := by rfl)
    (na : starEach [a] X.env = (false, eval a X.env) :: starEach [] X.env := by rfl) : PE X (.Call (.Name "len" p) [.Call (.Name "set" p2) [a] [] q] [] pos) (tLenSetU X.K ta) := by
  refine ⟨fun pins s σ H Q I h => ?_⟩
  refine Call_ (ld_blt I hg hm boot_len ?_)
  refine PyProof.Rows.callWith_builtin1 (PyProof.Rows.args_cons ?_ rfl) rfl rfl
  refine Call_ (ld_blt I hg2 hm2 boot_set ?_)
  refine PyProof.Rows.callWith_type1 (PyProof.Rows.args_cons (thn (ha.run pins s σ H _ I h) fun v s1 ⟨x, H1, I1, r1, q1⟩ => PyProof.Rows.args_nil ?_) na) na rfl
  obtain ⟨l, ns, rfl, hq, hl, q1⟩ := q1
  cases r1
  obtain ⟨its, r, pl, hz⟩ := I1.list hq
  have hlen : its.toArray.size = ns.length := by rw [List.size_toArray, ← r.length, List.length_map]
  refine call_set_list (I1.ok.hd hc) pl.isList (by simpa using r.ints) (by rw [hlen]; unfold scanBound; omega) fun h' tk hS hk => ?_
  refine PyProof.Rows.args_nil ?_
  have eF : firstMet (fun i => ns.getD i 0) ns.length = ns.foldl step_dedup [] := by unfold firstMet; rw [getD_map]
  have hle := firstMet_length_le (fun i => ns.getD i 0) ns.length
  rw [hlen, eF] at hS
  rw [eF] at hle
  obtain ⟨o, es, ep, t, ho, hex, hd, _, _, _, hf, hn⟩ := hS
  have I2 : Inv X pins σ H1 { s1 with heap := h', toks := tk } := I1.kept fun b o e => hk b o (Heap.lt_size e) e
  exact call_len_set ho hex hd hf (by rw [hn] <;> omega) ⟨.int ((ns.foldl step_dedup []).length : Nat), H1, I2.tok _, ⟨_, by rw [hn]⟩, q1⟩
/-- repr(x) of data -/
def rRepr (K : PySem.W.Frag) : List V → Hp → VK → Prop := fun vs H Q => ∃ (x : V) (d : PyData), vs = [x] ∧ Dp K H x d ∧ d.showable = true ∧ d.hasDict = false ∧ d.shown.length ≤ sizeLine ∧ d.depth ≤ 50 ∧ Q (.str d.shown) H
theorem cr_repr (hg : X.A.guards = some []) (hu : X.A.units + 60 < cLine) : CallR X (.builtin "repr") (rRepr X.K) := by
  intro pins s σ H vs us Q I r h
  obtain ⟨x, d, rfl, hd, hs, hn, hz, hdp, q⟩ := h
  obtain ⟨u, rfl, ru⟩ := vals1 r
  cases hd with
  | non => cases ru; exact P.repr_of_none ⟨.str _, H, I.tok _, ⟨_, rfl⟩, q⟩
  | bl b => cases ru; exact P.repr_of_bool ⟨.str _, H, I.tok _, ⟨_, rfl⟩, q⟩
  | int i => obtain ⟨t, rfl⟩ := ru; exact P.repr_of_int (by simpa [PyData.showable] using hs) ⟨.str _, H, I.tok _, ⟨_, rfl⟩, q⟩
  | str y => obtain ⟨t, rfl⟩ := ru; exact P.repr_of_str ⟨.str _, H, I.tok _, ⟨_, rfl⟩, q⟩ hz
  | lst hs' ha =>
    obtain ⟨as, rd⟩ := Dp.reads I _ _ _ (.lst hs' ha) ru
    cases ru
    exact repr_of_reads' rd hs (PyData.noDict_hsm hn) hg (by omega) (fun _ _ e => e) (fun h' u tk hk => ⟨.str _, H, I.kept (t' := tk) hk, ⟨_, rfl⟩, q⟩) hz
  | tup hs' ha =>
    obtain ⟨as, rd⟩ := Dp.reads I _ _ _ (.tup hs' ha) ru
    cases ru
    exact repr_of_reads' rd hs (PyData.noDict_hsm hn) hg (by omega) (fun _ _ e => e) (fun h' u tk hk => ⟨.str _, H, I.kept (t' := tk) hk, ⟨_, rfl⟩, q⟩) hz
end
end L2

/-! ## DLw -/
namespace DL
open PySem L2
section
variable {G : Tb} {W : WX} {fx : List Nat} {ta tb tc : TE} {fa fb fc : M D}
/-! ranges as values -/
def mkRngD : D → Option D
  | .int j => some (.rng 0 j)
  | _ => none
theorem unE_mkRng : UnE G (Un1 (fun vs H Q => ∃ j, vs = [V.int j] ∧ ∀ p, H p = none → Q (.ref p) (upd H p (.rng 0 j)))) mkRngD := by
  intro B H x v d ex rx e Q q
  unfold mkRngD at e
  split at e
  · cases e; exact ⟨_, by rw [show v = _ from rx], fun p hp => q _ _ _ (.new ex hp) ⟨p, rfl, upd_same⟩⟩
  · cases e
def rngItems : D → Option (List D)
  | .rng lo hi => if -(2 ^ 62) ≤ lo ∧ lo < 2 ^ 62 ∧ -(2 ^ 62) ≤ hi ∧ hi < 2 ^ 62 then some (rngD lo (hi - lo).toNat) else none
  | _ => none
theorem snd_iRng (ha : Snd G W (RE G) ta fa) : Snd G W (RI G) (iRngV ta) (itOf rngItems fa) := fun s σ B H rep =>
  At.seq (R2 := RI G) (t2 := fun (x : V) H1 R => ∃ a lo hi, x = V.ref a ∧ H1 a = some (.rng lo hi) ∧ -(2 ^ 62) ≤ lo ∧ lo < 2 ^ 62 ∧ -(2 ^ 62) ≤ hi ∧ hi < 2 ^ 62 ∧ R (Itr lo (hi - lo).toNat) H1) (ha s σ B H rep) fun d s1 v B1 H1 e1 g1 r1 (q1 : RD G B1 d v) =>
    at_opt r1 fun ds e Q ok => by
      unfold rngItems at e
      split at e
      · split at e
        · rename_i lo hi hz; cases e
          obtain ⟨a, rfl, h⟩ := q1
          exact ⟨a, lo, hi, rfl, r1.ex _ _ h, hz.1, hz.2.1, hz.2.2.1, hz.2.2.2, ok _ B1 H1 (.refl r1.ex) walk_r⟩
        · cases e
      · cases e
/-! all(..) of data -/
def fitB : PyData → Bool
  | .str x => decide (x.length ≤ sizeLine)
  | .list xs => decide (xs.length ≤ sizeLine)
  | .tuple xs => decide (xs.length ≤ sizeLine)
  | _ => true
theorem fit_str {x : Str} (h : (x.length : Int) < 2 ^ 63) : (PyData.str x).fits63 := h
theorem fit_lst {x : List PyData} (h : (x.length : Int) < 2 ^ 63) : (PyData.list x).fits63 := h
theorem fit_tup {x : List PyData} (h : (x.length : Int) < 2 ^ 63) : (PyData.tuple x).fits63 := h
theorem fit_lt {n : Nat} (h : n ≤ sizeLine) : (n : Int) < 2 ^ 63 := by
  have e := sizeLine_eq
  omega
theorem fit_of : ∀ {d : PyData}, fitB d = true → d.fits63
  | .str x, h => fit_str (fit_lt (of_decide_eq_true h))
  | .list x, h => fit_lst (fit_lt (of_decide_eq_true h))
  | .tuple x, h => fit_tup (fit_lt (of_decide_eq_true h))
  | .none, _ => trivial
  | .bool _, _ => trivial
  | .int _, _ => trivial
  | .dict _, _ => trivial
def allTD : D → Option D
  | .lst ds => if (pls ds && PyData.plainAll (pys ds) && (pys ds).all fitB) = true then some (.bl ((pys ds).all PyData.truthy)) else none
  | _ => none
theorem unE_allT : UnE G (Un1 (rAllD G.K)) allTD := by
  intro B H x v d ex rx e Q q
  unfold allTD at e
  split at e
  · split at e
    · rename_i ds hz
      simp only [Bool.and_eq_true] at hz
      cases e
      have h := rx.dp ex (d := .lst ds) (by simpa [D.pl] using hz.1.1)
      cases h with
      | lst hs ha => exact ⟨_, _, _, rfl, hs, ha, hz.1.2, fun x hx => fit_of (List.all_eq_true.mp hz.2 x hx), q _ B H (.refl ex) rfl⟩
    · cases e
  · cases e
/-! sorted -/
theorem rds_pairs {B : Hp} : ∀ {bs : List (V × D)}, (∀ b ∈ bs, RD G B b.2 b.1) → RDs G B (bs.map (·.2)) (bs.map (·.1))
  | [], _ => rfl
  | b :: bs, h => .cons (h b List.mem_cons_self) (rds_pairs fun c hc => h c (List.mem_cons_of_mem _ hc))
theorem rds_zip {B : Hp} : ∀ {ds : List D} {vs : List V}, RDs G B ds vs → (vs.zip ds).map (·.1) = vs ∧ (vs.zip ds).map (·.2) = ds ∧ ∀ b ∈ vs.zip ds, RD G B b.2 b.1
  | [], _, h => by rw [show _ = [] from h]; exact ⟨rfl, rfl, fun b hb => by cases hb⟩
  | d :: ds, _, ⟨v, r, rfl, h2, h3⟩ => by
    obtain ⟨e1, e2, e3⟩ := rds_zip h3
    refine ⟨by rw [List.zip_cons_cons, List.map_cons, e1], by rw [List.zip_cons_cons, List.map_cons, e2], fun b hb => ?_⟩
    rw [List.zip_cons_cons] at hb
    rcases List.mem_cons.mp hb with z | z
    · rw [z]; exact h2
    · exact e3 b z
def isTupNE : D → Bool
  | .tup (_ :: _) => true
  | _ => false
def notNT : D → Bool
  | .bl _ => true
  | .int _ => true
  | .str _ => true
  | .lst _ => true
  | _ => false
def sortOk (ds : List D) : Bool := pls ds && (ds.all fun d => ds.all fun e => PySem.W.alike d.py e.py) && (ds.all isTupNE || ds.all notNT) && ds.all fun d => decide (d.py.depth ≤ 50)
def leD' : D → D → Bool := PySem.W.dataLe false D.py
def sortD : D → Option D
  | .lst ds => if sortOk ds = true then some (.lst (ds.mergeSort leD')) else none
  | _ => none
theorem pls_mem : ∀ {ds : List D} {d : D}, pls ds = true → d ∈ ds → d.pl = true
  | [], _, _, h => by cases h
  | e :: ds, d, p, h => by
    have p' : e.pl = true ∧ pls ds = true := by simpa [pls] using p
    rcases List.mem_cons.mp h with z | z
    · rw [z]; exact p'.1
    · exact pls_mem p'.2 z
theorem unF_sort : UnF G (Un1 (rSortedA G.K)) sortD := by
  intro B H x v d ex rx e Q q
  unfold sortD at e
  split at e
  · split at e
    · rename_i ds hz
      cases e
      simp only [sortOk, Bool.and_eq_true, Bool.or_eq_true] at hz
      obtain ⟨⟨⟨hp, hal⟩, hk⟩, hd⟩ := hz
      obtain ⟨a, vs, rfl, h2, h3⟩ := rx
      obtain ⟨e1, e2, e3⟩ := rds_zip h3
      have mem2 : ∀ {b}, b ∈ vs.zip ds → b.2 ∈ ds := fun {b} hb => by rw [← e2]; exact List.mem_map.mpr ⟨b, hb, rfl⟩
      refine ⟨D, a, vs.zip ds, D.py, rfl, by rw [e1]; exact .of h2, fun b hb => dp_mono ex (RD.dp _ _ (pls_mem hp (mem2 hb)) (e3 b hb)), ?_, ?_, fun b hb => of_decide_eq_true (List.all_eq_true.mp hd _ (mem2 hb)), fun p hp' => ?_⟩
      · intro x hx y hy
        obtain ⟨b, hb, rfl⟩ := List.mem_map.mp hx
        obtain ⟨c, hc, rfl⟩ := List.mem_map.mp hy
        exact List.all_eq_true.mp (List.all_eq_true.mp hal _ (mem2 hb)) _ (mem2 hc)
      · rcases hk with hk | hk
        · refine .inl fun x hx => ?_
          obtain ⟨b, hb, rfl⟩ := List.mem_map.mp hx
          have := List.all_eq_true.mp hk _ (mem2 hb)
          cases e : b.2 with
          | tup xs =>
            cases xs with
            | nil => rw [e] at this; cases this
            | cons y r => exact ⟨_, _, rfl⟩
          | _ => rw [e] at this; cases this
        · refine .inr fun x hx => ?_
          obtain ⟨b, hb, rfl⟩ := List.mem_map.mp hx
          have := List.all_eq_true.mp hk _ (mem2 hb)
          cases e : b.2 with
          | bl _ => exact ⟨(fun z => by cases z), fun _ z => by cases z⟩
          | int _ => exact ⟨(fun z => by cases z), fun _ z => by cases z⟩
          | str _ => exact ⟨(fun z => by cases z), fun _ z => by cases z⟩
          | lst _ => exact ⟨(fun z => by cases z), fun _ z => by cases z⟩
          | _ => rw [e] at this; cases this
      · refine q p B _ (.newF ex hp') hp' (ex.back hp') ⟨_, upd_same, ?_⟩
        have e4 : ((vs.zip ds).mergeSort (PySem.W.dataLe false fun b => b.2.py)).map (·.2) = ds.mergeSort leD' := by
          have h := List.map_mergeSort (r := fun a b : V × D => leD' a.2 b.2) (s := leD') (f := fun b : V × D => b.2) (l := vs.zip ds) (fun _ _ _ _ => rfl)
          rw [e2] at h
          exact h
        rw [← e4]
        exact rds_pairs fun b hb => e3 b ((List.mergeSort_perm _ _).mem_iff.mp hb)
    · cases e
  · cases e
/-! len(set(..)) -/
def intsD : List D → Option (List Int)
  | [] => some []
  | .int b :: r => (intsD r).map (b :: ·)
  | _ :: _ => none
theorem ints_map : ∀ {ds : List D} {bs : List Int}, intsD ds = some bs → ds = bs.map .int
  | [], bs, e => by cases e; rfl
  | d :: ds, bs, e => by
    cases d <;> simp only [intsD] at e <;> first | cases e | skip
    obtain ⟨r, h1, rfl⟩ := Option.map_eq_some_iff.mp e
    rw [ints_map h1]; rfl
theorem ints_of : ∀ (bs : List Int), intsD (bs.map .int) = some bs
  | [] => rfl
  | b :: bs => by rw [List.map_cons, intsD, ints_of bs]; rfl
def lenSetD : D → Option D
  | .lst ds => (intsD ds).bind fun ns => if ns.length ≤ 4000 then some (.int ((ns.foldl PyProof.Rows.step_dedup []).length : Nat)) else none
  | _ => none
theorem snd_lenSet (ha : Snd G W (RR G) ta fa) : Snd G W (RE G) (tLenSetU G.K ta) (eUn lenSetD fa) := fun s σ B H rep =>
  At.seq (R2 := RE G) (t2 := fun (x : V) H1 Q => ∃ (l : Addr) (ns : List Int), x = .ref l ∧ SqL G.K H1 l (ns.map V.int) ∧ ns.length ≤ 4000 ∧ Q (.int ((ns.foldl PyProof.Rows.step_dedup []).length : Nat)) H1) (ha s σ B H rep) fun d s1 v B1 H1 e1 g1 r1 (q1 : RDo G B1 H1 d v) =>
    at_opt r1 fun o e Q ok => by
      unfold lenSetD at e
      split at e
      · obtain ⟨ns, h1, h2⟩ := Option.bind_eq_some_iff.mp e
        split at h2
        · rename_i hz; cases h2
          obtain ⟨a, vs, rfl, h2, h3⟩ := q1
          rw [ints_map h1] at h3
          exact ⟨a, ns, rfl, by rw [← h3.ints]; exact .of h2, hz, ok _ B1 H1 (.refl r1.ex) rfl⟩
        · cases h2
      · cases e
/-! repr -/
def reprD (d : D) : Option D := if (d.pl && d.py.showable && !d.py.hasDict && decide (d.py.shown.length ≤ sizeLine) && decide (d.py.depth ≤ 50)) = true then some (.str d.py.shown) else none
theorem unE_repr : UnE G (Un1 (rRepr G.K)) reprD := by
  intro B H x v d ex rx e Q q
  unfold reprD at e
  split at e
  · rename_i hz
    simp only [Bool.and_eq_true, Bool.not_eq_true', decide_eq_true_eq] at hz
    cases e
    exact ⟨v, _, rfl, rx.dp ex hz.1.1.1.1, hz.1.1.1.2, hz.1.1.2, hz.1.2, hz.2, q _ B H (.refl ex) rfl⟩
  · cases e
/-! texts and ints -/
def strsD : List D → Option (List Str)
  | [] => some []
  | .str b :: r => (strsD r).map (b :: ·)
  | _ :: _ => none
theorem strs_map : ∀ {ds : List D} {bs : List Str}, strsD ds = some bs → ds = bs.map .str
  | [], bs, e => by cases e; rfl
  | d :: ds, bs, e => by
    cases d <;> simp only [strsD] at e <;> first | cases e | skip
    obtain ⟨r, h1, rfl⟩ := Option.map_eq_some_iff.mp e
    rw [strs_map h1]; rfl
theorem strs_of : ∀ (bs : List Str), strsD (bs.map .str) = some bs
  | [] => rfl
  | b :: bs => by rw [List.map_cons, strsD, strs_of bs]; rfl
def joinOk (a : Str) (ys : List Str) : Bool := decide ((ys.map (·.length)).sum + ys.length * a.length ≤ 16777216)
def joinD : D → D → Option D
  | .str a, .lst ds => (strsD ds).bind fun ys => if joinOk a ys = true then some (.str (Txt.join a ys)) else none
  | .str a, .tup ds => (strsD ds).bind fun ys => if joinOk a ys = true then some (.str (Txt.join a ys)) else none
  | _, _ => none
abbrev rJoin (K : PySem.W.Frag) : V → List V → Hp → VK → Prop := fun x xs H Q => ∃ a p, ∃ ys : List Str, x = .str a ∧ xs = [.ref p] ∧ (SqL K H p (ys.map V.str) ∨ SqT K H p (ys.map V.str)) ∧ (ys.map (·.length)).sum + ys.length * a.length ≤ 16777216 ∧ Q (.str (Txt.join a ys)) H
theorem opE_join : OpE G (Mt1 (rJoin G.K)) joinD := by
  intro B H x y v u d ex rx ry e Q q
  unfold joinD at e
  split at e
  · obtain ⟨ys, h1, h2⟩ := Option.bind_eq_some_iff.mp e
    split at h2
    · rename_i hz; cases h2
      obtain ⟨p, vs, rfl, k2, k3⟩ := ry
      rw [strs_map h1] at k3
      exact ⟨_, p, ys, rx, rfl, .inl (by rw [← k3.strs]; exact .of k2), of_decide_eq_true hz, q _ B H (.refl ex) rfl⟩
    · cases h2
  · obtain ⟨ys, h1, h2⟩ := Option.bind_eq_some_iff.mp e
    split at h2
    · rename_i hz; cases h2
      obtain ⟨p, vs, rfl, k2, k3⟩ := ry
      rw [strs_map h1] at k3
      exact ⟨_, p, ys, rx, rfl, .inr (by rw [← k3.strs]; exact ex_t ex k2), of_decide_eq_true hz, q _ B H (.refl ex) rfl⟩
    · cases h2
  · cases e
theorem snd_join (ha : Snd G W (RE G) ta fa) (hb : Snd G W (RR G) tb fb) : Snd G W (RE G) (tM1 (rJoin G.K) ta tb) (eStr1 joinD fa fb) := snd_m1 opE_join ha hb
def bitsD : D → Option D
  | .int i => some (.int (Builtin.Int.intBits i : Nat))
  | _ => none
theorem snd_bits (ha : Snd G W (RE G) ta fa) : Snd G W (RE G) (tBits ta) (eUn bitsD fa) := fun s σ B H rep =>
  At.seq (R2 := RE G) (t2 := fun (x : V) H1 Q => ∃ i, x = .int i ∧ Q (.int (Builtin.Int.intBits i : Nat)) H1) (ha s σ B H rep) fun d s1 v B1 H1 e1 g1 r1 (q1 : RD G B1 d v) =>
    at_opt r1 fun o e Q ok => by
      unfold bitsD at e
      split at e
      · cases e; exact ⟨_, q1, ok _ B1 H1 (.refl r1.ex) rfl⟩
      · cases e
/-- {x} in an f-string -/
def fmtD : D → Option D
  | .str y => if y.length ≤ sizeLine then some (.str y) else none
  | .int i => if i.natAbs.log2 < 1920 then some (.str (toString i)) else none
  | _ => none
theorem snd_fmt (ha : Snd G W (RE G) ta fa) : Snd G W (RE G) (tFmt ta) (eUn fmtD fa) := fun s σ B H rep =>
  At.seq (R2 := RE G) (t2 := fun (x : V) H1 Q => (∃ y : Str, x = .str y ∧ y.length ≤ sizeLine ∧ Q (.str y) H1) ∨ ∃ i : Int, x = .int i ∧ i.natAbs.log2 < 1920 ∧ Q (.str (toString i)) H1) (ha s σ B H rep) fun d s1 v B1 H1 e1 g1 r1 (q1 : RD G B1 d v) =>
    at_opt r1 fun o e Q ok => by
      unfold fmtD at e
      split at e
      · split at e
        · rename_i hz; cases e; exact .inl ⟨_, q1, hz, ok _ B1 H1 (.refl r1.ex) rfl⟩
        · cases e
      · split at e
        · rename_i hz; cases e; exact .inr ⟨_, q1, hz, ok _ B1 H1 (.refl r1.ex) rfl⟩
        · cases e
      · cases e
/-- the parts one behind the other -/
inductive SndJ (G : Tb) (W : WX) : List TE → List (M D) → Prop where
  | nil : SndJ G W [] []
  | cons {t : TE} {f : M D} {ts : List TE} {fs : List (M D)} (h : Snd G W (RE G) t f) (r : SndJ G W ts fs) : SndJ G W (t :: ts) (f :: fs)
def RS : RL Str Str := fun _ _ _ a b => a = b
instance : Back RS := ⟨fun _ h => h⟩
def jAdd (acc : Str) : D → Option Str
  | .str y => if (acc ++ y).length ≤ sizeLine then some (acc ++ y) else none
  | _ => none
def jFold : List (M D) → Str → M Str
  | [], acc => ret acc
  | f :: fs, acc => bnd f fun d => bnd (opt (jAdd acc d)) fun a => jFold fs a
theorem snd_js {ts : List TE} {fs : List (M D)} (h : SndJ G W ts fs) : ∀ acc, Snd G W RS (tJs ts acc) (jFold fs acc) := by
  induction h with
  | nil => exact fun acc s σ B H rep => At.val rep rfl rfl
  | @cons t f ts fs h r ih =>
    intro acc s σ B H rep
    refine At.seq (R2 := RS) (t2 := fun (x : V) H1 Q => ∃ y : Str, x = .str y ∧ (acc ++ y).length ≤ sizeLine ∧ tJs ts (acc ++ y) σ H1 Q) (h s σ B H rep) fun d s1 v B1 H1 e1 g1 r1 (q1 : RD G B1 d v) => ?_
    intro Q ok exc nn
    cases d with
    | str y =>
      by_cases hz : (acc ++ y).length ≤ sizeLine
      · have eb : bnd (opt (jAdd acc (.str y))) (fun a => jFold fs a) s1 = jFold fs (acc ++ y) s1 := by simp only [bnd, jAdd, hz, if_true, opt]
        exact ⟨y, q1, hz, ih (acc ++ y) s1 σ B1 H1 r1 Q (fun a s' b B' H' e => ok a s' b B' H' (eb.trans e)) (fun x s' dd B' H' e => exc x s' dd B' H' (eb.trans e)) fun e => nn (eb.trans e)⟩
      · exact absurd (by simp only [bnd, jAdd, hz, if_false, opt]) nn
    | _ => exact absurd rfl nn
def eJoined (fs : List (M D)) : M D := bnd (jFold fs Str.empty) fun a => ret (.str a)
theorem snd_joined {ts : List TE} {fs : List (M D)} (h : SndJ G W ts fs) : Snd G W (RE G) (fun σ H Q => tJs ts Str.empty σ H fun out H1 => Q (.str out) H1) (eJoined fs) := fun s σ B H rep =>
  At.seq (R2 := RE G) (t2 := fun (x : Str) H1 Q => Q (.str x) H1) (snd_js h Str.empty s σ B H rep) fun a s1 b B1 H1 e1 g1 r1 (q1 : a = b) => by
    subst q1; exact At.val r1 rfl rfl
/-- [*e, ..] -/
def seqL : D → Option (List D)
  | .lst ds => some ds
  | .tup ds => some ds
  | _ => none
def aStar (fa : M D) (fr : M (List D)) : M (List D) := bnd fa fun d => bnd (opt (seqL d)) fun xs => bnd fr fun ys => ret (xs ++ ys)
theorem snd_star {tr : TA} {fr : M (List D)} (ha : Snd G W (RE G) ta fa) (hr : Snd G W (RA G) tr fr) : Snd G W (RA G) (StX.tStar G.K ta tr) (aStar fa fr) := fun s σ B H rep =>
  At.seq (R2 := RA G) (t2 := fun (x : V) H1 Q => ∃ p xs, x = V.ref p ∧ (SqT G.K H1 p xs ∨ SqL G.K H1 p xs) ∧ tr σ H1 fun ys H2 => Q (xs ++ ys) H2) (ha s σ B H rep) fun d s1 v B1 H1 e1 g1 r1 (q1 : RD G B1 d v) => by
    intro Q ok exc nn
    have key : ∀ xs ds, seqL d = some ds → RDs G B1 ds xs → tr σ H1 fun ys H2 => Q (xs ++ ys) H2 := fun xs ds e0 hx => by
      have eb : bnd (opt (seqL d)) (fun xs => bnd fr fun ys => ret (xs ++ ys)) s1 = bnd fr (fun ys => ret (ds ++ ys)) s1 := by rw [e0]; rfl
      refine At.seq (R2 := RA G) (t2 := fun (ys : List V) H2 Q => Q (xs ++ ys) H2) (hr s1 σ B1 H1 r1) (fun es s2 us B2 H2 e2 g2 r2 (q2 : RDs G B2 es us) => At.val r2 (f := ret (ds ++ es)) rfl (RDs.append (hx.mono g2.b) q2)) Q (fun a s' b B' H' e => ok a s' b B' H' (eb.trans e)) (fun x s' dd B' H' e => exc x s' dd B' H' (eb.trans e)) fun e => nn (eb.trans e)
    cases d with
    | lst ds => obtain ⟨a, xs, rfl, h2, h3⟩ := q1; exact ⟨a, xs, rfl, .inr (.of (r1.ex _ _ h2)), key xs ds rfl h3⟩
    | tup ds => obtain ⟨a, xs, rfl, h2, h3⟩ := q1; exact ⟨a, xs, rfl, .inl (ex_t r1.ex h2), key xs ds rfl h3⟩
    | _ => exact absurd rfl nn
end
end DL

/-! ## DLx -/
namespace L2
open PySem PySem.Spec PyProof.Rows
section
variable {X : Cx}
theorem ip_or : PIp X .BitOr (ipI fun i j => Builtin.bitOr i j) := by
  intro pins s σ H x y v u Q I r1 r2 h
  obtain ⟨i, j, e1, e2, q⟩ := h
  subst e1; subst e2
  obtain ⟨t, rfl⟩ := r1
  obtain ⟨t', rfl⟩ := r2
  exact ior_int ⟨.int _, H, I.tok _, ⟨_, rfl⟩, q⟩
theorem ip_and : PIp X .BitAnd (ipI fun i j => Builtin.bitAnd i j) := by
  intro pins s σ H x y v u Q I r1 r2 h
  obtain ⟨i, j, e1, e2, q⟩ := h
  subst e1; subst e2
  obtain ⟨t, rfl⟩ := r1
  obtain ⟨t', rfl⟩ := r2
  exact iand_int ⟨.int _, H, I.tok _, ⟨_, rfl⟩, q⟩
theorem get_list : PGet X (rIxL X.K) := by
  intro pins s σ H x y v u Q I rx ry h
  obtain ⟨p, xs, i, z, rfl, rfl, hq, he, q⟩ := h
  cases rx
  obtain ⟨t, rfl⟩ := ry
  obtain ⟨its, r, pl, hz⟩ := I.list hq
  obtain ⟨j, h1, h2, h3, h4, h5⟩ := atI_get he
  obtain ⟨w, ew, rw'⟩ := r.get h2
  have hl := r.length
  have hn := line63
  have fin : EP X pins σ Q w s := ⟨z, H, I, rw', q⟩
  by_cases h0 : 0 ≤ i
  · have hj : i.toNat = j := by
      rw [seqIndex_of h0 h5] at h1
      exact Option.some.inj h1
    exact wpAny_getItem_list pl.isList h0 (by omega) (by rw [hj]; simpa using ew) fin
  · have hj : (i + (its.toArray.size : Int)).toNat = j := by
      rw [seqIndex_neg (by omega) h4] at h1
      rw [List.size_toArray, ← hl]
      exact Option.some.inj h1
    exact wpAny_getItem_list_neg pl.isList (by omega) (by rw [List.size_toArray] <;> omega) (by omega) (by rw [hj]; simpa using ew) fin
theorem sw_trueD {kx vx : Expr} {gs : List Comprehension} {scope : Scope} {pos py : Pos} {y : Str} {l : Nat} {env : Env} (hk : env.scope.kind = .function) (hy : env.scope.names.lookup y = some .local) (hl : (py.line == pos.line) = true)
    (ha : (scope.names.any fun (n, k) => n == y && (k == .local || k == .cell)) = false) : swapsWith (.DictComp kx vx gs scope pos) (some (.Name y py)) l env = pure true := by
  have ky : env.kindOf y = some .local := hy
  have hb : env.blockKind = .function := by unfold Env.blockKind; rw [hk]; rfl
  unfold swapsWith
  simp only [hb, ky, ha, Expr.pos, hl]
  rfl
/-- name = {k: v for ..} on one line, the name a local -/
theorem ps_setDc {i : Nat} {y : Str} {py : Pos} {kx vx tg iter : Expr} {ifs : List Expr} {scope : Scope} {own : List (Str × Nat)} {pos spos : Pos} {wi : TI} {g : TG} {tt : TT} {tk tv : TE} (hc : X.calm = true) (hN : X.N.Nodup) (hy : X.N[i]? = some y) (hyl : X.env.scope.names.lookup y = some .local)
    (hsw : swapsWith (.DictComp kx vx [⟨tg, iter, ifs, 0⟩] scope pos) (some (.Name y py)) spos.line X.env = pure true) (hi : PI X tg iter wi) (ok : BlkOk X.N X.env.scope scope own)
    (hg : ∀ (s : Shared) (H : Hp) (C : Addr) (cl : List (Str × Addr)) (fp : List Addr), PG (X.blk s H scope (compEnvC scope cl C X.env) fp) tg g) (ht : ∀ (s : Shared) (H : Hp) (C : Addr) (cl : List (Str × Addr)) (fp : List Addr), PTs (X.blk s H scope (compEnvC scope cl C X.env) fp) ifs tt)
    (hk : ∀ (s : Shared) (H : Hp) (C : Addr) (cl : List (Str × Addr)) (fp : List Addr), PE (X.blk s H scope (compEnvC scope cl C X.env) fp) kx tk)
    (he : ∀ (s : Shared) (H : Hp) (C : Addr) (cl : List (Str × Addr)) (fp : List Addr), PE (X.blk s H scope (compEnvC scope cl C X.env) fp) vx tv) (hs : ∀ x, foldedSetIterable iter X.env x = pure x := by intro _; rfl) :
    PS X (.Assign [.Name y py] (.DictComp kx vx [⟨tg, iter, ifs, 0⟩] scope pos) spos) (tAsg (tDc wi g tt tk tv (own.map (·.2))) (gName i)) := by
  refine ⟨fun pins s σ H D I h => ?_⟩
  rw [exec_Assign_Name_used _ _ _ _ hsw]
  refine wpAny_bind (wpAny_standAt (wpAny_bind ?_))
  show wpAny _ X.A (do let _ ← comprehension (.DictComp kx vx [⟨tg, iter, ifs, 0⟩] scope pos) scope X.env (firstIterPos [⟨tg, iter, ifs, 0⟩] pos) newDict false (eval iter X.env) (some (assign (.Name y py) X.env))) _ _ s
  have h : tDc wi g tt tk tv (own.map (·.2)) σ H (fun x H1 => gName i x σ H1 D.nx) := h
  refine wpAny_bind (thn (dc_core (Qf := fun _ s' => SP X pins D .next s') hc hN I hi ok hg ht hk he hs h fun L C s' m H' I' q hn f => ?_) fun _ s' hq => wpAny_pure (wpAny_pure hq))
  show wpAny _ _ (assign (.Name y py) X.env (.ref L)) _ _ _
  refine wpAny_assign_Name (store_ok2 (v := V.ref L) I' hN hy (.inl hyl) rfl (fun s2 I2 ⟨a, sb, ha⟩ => ?_) (.inr hyl))
  obtain ⟨f0, f1, f2, f3, f4, f5⟩ := f
  have haC : C ≠ a := by
    rcases ha with z | z
    · rw [z]; exact f1
    · exact fun e => f4 y a z e.symm
  refine ⟨m, hn.sameBut sb haC, fun h3 sb3 => ?_⟩
  exact ⟨_, H', I2.turned (t' := s2.toks) (fun b o hb e => (sb3.2 b hb).trans e) f0 f1 f3 f4 f5, q⟩
end
end L2
namespace DL
open PySem L2
section
variable {G : Tb} {W : WX} {fx : List Nat} {ta tb tc : TE} {fa fb fc : M D}
/-! dicts -/
def rDGet : R2 := fun x y H Q => ∃ a v, x = V.ref a ∧ DGet H a y (some v) ∧ Q v H
def rDIn : R2 := fun y x H Q => ∃ a o, x = V.ref a ∧ DGet H a y o ∧ Q (.bl o.isSome) H
def rDNotIn : R2 := fun y x H Q => ∃ a o, x = V.ref a ∧ DGet H a y o ∧ Q (.bl (!o.isSome)) H
def dgetD : D → D → Option D
  | .dct kvs, k => (keyD k).bind (getA kvs)
  | _, _ => none
def dinD : D → D → Option D
  | k, .dct kvs => (keyD k).map fun c => .bl (getA kvs c).isSome
  | _, _ => none
def dnotinD : D → D → Option D
  | k, .dct kvs => (keyD k).map fun c => .bl (!(getA kvs c).isSome)
  | _, _ => none
theorem RDo.key {B H : Hp} {d : D} {v : V} {c : Key} (h : RDo G B H d v) (e : keyD d = some c) : v = kV c := by
  cases d <;> simp only [keyD] at e <;> first | cases e | skip
  all_goals exact h
theorem opE_dget : OpE G rDGet dgetD := by
  intro B H x y v u d ex rx ry e Q q
  unfold dgetD at e
  split at e
  · obtain ⟨c, e1, e2⟩ := Option.bind_eq_some_iff.mp e
    obtain ⟨a, ws, rfl, h1, h2⟩ := rx
    obtain ⟨w, h3, h4⟩ := (RDk.get h2).1 d e2
    refine ⟨a, w, rfl, ?_, q _ B H (.refl ex) h4⟩
    rw [ry.key e1, ← h3]; exact .k h1
  · cases e
theorem opE_din : OpE G rDIn dinD := by
  intro B H x y v u d ex rx ry e Q q
  unfold dinD at e
  split at e
  · rename_i kvs
    obtain ⟨c, e1, e2⟩ := Option.map_eq_some_iff.mp e
    cases e2
    obtain ⟨a, ws, rfl, h1, h2⟩ := ry
    refine ⟨a, valV ws c, rfl, by rw [rx.key e1]; exact .k h1, ?_⟩
    have : (valV ws c).isSome = (getA kvs c).isSome := by
      cases z : getA kvs c with
      | none => rw [(RDk.get h2).2 z]; rfl
      | some d => obtain ⟨w, h3, _⟩ := (RDk.get h2).1 d z; rw [h3]; rfl
    rw [this]
    exact q _ B H (.refl ex) rfl
  · cases e
theorem opE_dnotin : OpE G rDNotIn dnotinD := by
  intro B H x y v u d ex rx ry e Q q
  unfold dnotinD at e
  split at e
  · rename_i kvs
    obtain ⟨c, e1, e2⟩ := Option.map_eq_some_iff.mp e
    cases e2
    obtain ⟨a, ws, rfl, h1, h2⟩ := ry
    refine ⟨a, valV ws c, rfl, by rw [rx.key e1]; exact .k h1, ?_⟩
    have : (valV ws c).isSome = (getA kvs c).isSome := by
      cases z : getA kvs c with
      | none => rw [(RDk.get h2).2 z]; rfl
      | some d => obtain ⟨w, h3, _⟩ := (RDk.get h2).1 d z; rw [h3]; rfl
    rw [this]
    exact q _ B H (.refl ex) rfl
  · cases e
theorem snd_dget (ha : Snd G W (RE G) ta fa) (hb : Snd G W (RR G) tb fb) : Snd G W (RE G) (tDGet ta tb) (eBin dgetD fa fb) := snd_op opE_dget ha hb
theorem snd_dgetO {i : Nat} (hb : Snd G W (RR G) tb fb) : Snd G W (RE G) (tDGet (tVar i) tb) (eBinO dgetD i fb) := snd_opO opE_dget hb
theorem snd_din (ha : Snd G W (RE G) ta fa) (hb : Snd G W (RR G) tb fb) : Snd G W (RE G) (tDIn ta tb) (eBin dinD fa fb) := snd_op opE_din ha hb
theorem snd_dnotin (ha : Snd G W (RE G) ta fa) (hb : Snd G W (RR G) tb fb) : Snd G W (RE G) (tDNotIn ta tb) (eBin dnotinD fa fb) := snd_op opE_dnotin ha hb
theorem snd_dnew : Snd G W (RF G) tDNewK (eC (.dct [])) := fun s σ B H rep Q ok exc nn p hp =>
  ok (.dct []) s _ B _ rfl (.newF hp) (rep.newF hp) ⟨p, rfl, hp, rep.ex.back hp, [], upd_same, rfl⟩
theorem snd_lnew : Snd G W (RF G) (tLst tNil) (eC (.lst [])) := fun s σ B H rep Q ok exc nn => ⟨Nat.zero_le _, fun p hp =>
  ok (.lst []) s _ B _ rfl (.newF hp) (rep.newF hp) ⟨p, rfl, hp, rep.ex.back hp, [], upd_same, rfl⟩⟩
def setDD (d k : D) : D → Option (Unit × D)
  | .dct kvs => (keyD k).bind fun c => if kvs.length < sizeLine then some ((), .dct (putA kvs c d)) else none
  | _ => none
def sPutD (i : Nat) (fk fe : M D) : M Fl := bnd fe fun d => bnd (bnd (ownIs isDc i) fun _ => bnd fk fun k => modOwn i (setDD d k)) fun _ => sNx
theorem at_put {s : Sl} {σ : St} {B H : Hp} {i : Nat} {tk : TE} {fk : M D} {d : D} {v : V} (rep : Rep G s σ B H) (hk : Snd G W (RE G) tk fk) (hd : RD G B d v) :
    At G W (fun _ _ _ _ (_ : Unit) => True) (bnd (ownIs isDc i) fun _ => bnd fk fun k => modOwn i (setDD d k)) s σ B H (fun Q => tVar i σ H fun o H1 => tk σ H1 fun k H2 => ∃ a H4, o = .ref a ∧ DPut H2 a k v H4 ∧ Q () H4) :=
  at_recv (R := fun _ _ _ _ (_ : Unit) => True) (t := fun x Q => tk σ H fun k H2 => ∃ a H4, x = .ref a ∧ DPut H2 a k v H4 ∧ Q () H4) rep fun a x e ea hO hp => by
    letI : Back (fun (_ _ _ : Hp) (_ : Unit) (_ : Unit) => True) := ⟨fun _ h => h⟩
    refine At.seq (R2 := fun _ _ _ (_ : Unit) (_ : Unit) => True) (t2 := fun k H1 Q => ∃ b H4, V.ref a = .ref b ∧ DPut H1 b k v H4 ∧ Q () H4) (hk s σ B H rep) fun kd s1 kv B1 H1 e1 g1 r1 (q1 : RD G B1 kd kv) => ?_
    refine at_mod r1 ea fun x y x' ex hb hO1 eg Q ok => ?_
    unfold setDD at eg
    split at eg
    · rename_i kvs
      obtain ⟨c, e2, e3⟩ := Option.bind_eq_some_iff.mp eg
      split at e3
      · rename_i hz
        cases e3
        obtain ⟨ws, w1, w2⟩ := hO1
        exact ⟨a, _, rfl, by rw [keyD_v q1 e2]; exact .k w1 (by rw [w2.len]; exact hz), ok () _ ⟨_, upd_same, w2.put (hd.mono g1.b)⟩ trivial⟩
      · cases e3
    · cases eg
theorem sndS_put {i : Nat} {tk te : TE} {fk fe : M D} (hk : Snd G W (RE G) tk fk) (he : Snd G W (RE G) te fe) : SndS G W fx (sDPut (tVar i) tk te) (sPutD i fk fe) :=
  sndS_of (u := fun b Dd σ H => tVar i σ H fun x H2 => tk σ H2 fun y H3 => ∃ a H4, x = .ref a ∧ DPut H3 a y b H4 ∧ Dd.nx σ H4) he fun d s σ B H b H0 rep r _ _ Dd ok exc nn => by
    refine at_put (i := i) rep hk r (fun _ H3 => Dd.nx σ H3) (fun a s1 _ B1 H1 e1 g1 r1 _ => ?_) (fun x s1 dd B1 H1 e1 g1 r1 q => exc x s1 σ dd B1 H1 (by simp only [bnd, sNx, ret] at e1 ⊢; rw [e1]) g1.st r1 q) fun e => nn (by simp only [bnd] at e ⊢; rw [e])
    exact ok .nx s1 σ B1 H1 (by simp only [bnd, sNx, ret] at e1 ⊢; rw [e1]) g1.st r1
/-! xs[k] op= e, xs the frame's own -/
def ixL : D → D → Option D
  | .int i, .lst ds => atI ds i
  | _, _ => none
def sAugL (g : D → D → Option D) (i : Nat) (fk fe : M D) : M Fl := bnd (bnd (ownIs isL i) fun _ => bnd fk fun k => bnd (eOwn i) fun xs => bnd (opt (ixL k xs)) fun x => bnd fe fun y => bnd (opt (g x y)) fun z => modOwn i (setLD z k)) fun _ => sNx
theorem at_augL {g : D → D → Option D} {tip : TIp} {s : Sl} {σ : St} {B H : Hp} {i : Nat} {tk te : TE} {fk fe : M D} (rep : Rep G s σ B H) (hp : OpE G tip g) (hk : Snd G W (RE G) tk fk) (he : Snd G W (RE G) te fe) :
    At G W (fun _ _ _ _ (_ : Unit) => True) (bnd (ownIs isL i) fun _ => bnd fk fun k => bnd (eOwn i) fun xs => bnd (opt (ixL k xs)) fun x => bnd fe fun y => bnd (opt (g x y)) fun z => modOwn i (setLD z k)) s σ B H
      (fun Q => tVar i σ H fun o H1 => tk σ H1 fun k H2 => rIxL G.K o k H2 fun x H3 => te σ H3 fun y H4 => tip x y H4 fun z H5 => rSetL o k z H5 fun H6 => Q () H6) :=
  at_recv (R := fun _ _ _ _ (_ : Unit) => True) (t := fun o Q => tk σ H fun k H2 => rIxL G.K o k H2 fun x H3 => te σ H3 fun y H4 => tip x y H4 fun z H5 => rSetL o k z H5 fun H6 => Q () H6) rep fun a x e ea hO hp' => by
    letI : Back (fun (_ _ _ : Hp) (_ : D) (_ : Unit) => True) := ⟨fun _ h => h⟩
    refine At.seq (R2 := fun _ _ _ (_ : D) (_ : Unit) => True) (t2 := fun k H1 Q => rIxL G.K (.ref a) k H1 fun x H3 => te σ H3 fun y H4 => tip x y H4 fun z H5 => rSetL (.ref a) k z H5 fun H6 => Q () H6) (hk s σ B H rep) fun kd s1 kv B1 H1 e1 g1 r1 (q1 : RD G B1 kd kv) => ?_
    intro Q ok exc nn
    cases eo : s1[i]? with
    | none => exact absurd (by simp only [bnd, eOwn, eo]) nn
    | some sl =>
      cases sl with
      | un => exact absurd (by simp only [bnd, eOwn, eo]) nn
      | sh d => exact absurd (by simp only [bnd, eOwn, eo]) nn
      | own xs =>
        have eb0 : bnd (eOwn i) (fun xs => bnd (opt (ixL kd xs)) fun x => bnd fe fun y => bnd (opt (g x y)) fun z => modOwn i (setLD z kd)) s1 = bnd (opt (ixL kd xs)) (fun x => bnd fe fun y => bnd (opt (g x y)) fun z => modOwn i (setLD z kd)) s1 := by simp only [bnd, eOwn, eo]
        cases ei : ixL kd xs with
        | none => exact absurd (by rw [eb0, ei]; rfl) nn
        | some x =>
          have eb1 : bnd (opt (ixL kd xs)) (fun x => bnd fe fun y => bnd (opt (g x y)) fun z => modOwn i (setLD z kd)) s1 = bnd fe (fun y => bnd (opt (g x y)) fun z => modOwn i (setLD z kd)) s1 := by rw [ei]; rfl
          unfold ixL at ei
          split at ei
          · rename_i j ds
            obtain ⟨a', w1, w2, vs, w3, w4⟩ := r1.slot i _ eo
            rw [ea] at w1; cases w1
            obtain ⟨xv, w5, w6⟩ := atI_rd w4 ei
            refine ⟨a, vs, j, xv, rfl, q1, .of w3, w5, ?_⟩
            refine At.seq (R2 := fun _ _ _ (_ : D) (_ : Unit) => True) (t2 := fun y H4 Q => tip xv y H4 fun z H5 => rSetL (.ref a) kv z H5 fun H6 => Q () H6) (he s1 σ B1 H1 r1) (fun yd s2 yv B2 H2 e2 g2 r2 (q2 : RD G B2 yd yv) => ?_) Q (fun a s' b B' H' z => ok a s' b B' H' (eb0.trans (eb1.trans z))) (fun x s' dd B' H' z => exc x s' dd B' H' (eb0.trans (eb1.trans z))) fun z => nn (eb0.trans (eb1.trans z))
            refine At.seq (R2 := fun _ _ _ (_ : D) (_ : Unit) => True) (t2 := fun z H5 Q => rSetL (.ref a) kv z H5 fun H6 => Q () H6) (at_opE hp r2 (RD.toO r2.ex (w6.mono g2.b)) (RD.toO r2.ex q2)) fun zd s3 zv B3 H3 e3 g3 r3 (q3 : RD G B3 zd zv) => ?_
            refine at_mod r3 ea fun x y x' ex hb hO1 eg Q ok => ?_
            unfold setLD at eg
            split at eg
            · obtain ⟨m, e4, e5⟩ := Option.map_eq_some_iff.mp eg
              cases e5
              obtain ⟨ws, w1, w2⟩ := hO1
              exact ⟨a, ws, j, m, rfl, q1, w1, by rw [w2.len]; exact e4, ok () _ ⟨_, upd_same, w2.set m q3⟩ trivial⟩
            · cases eg
          · cases ei
theorem sndS_augL {g : D → D → Option D} {tip : TIp} {i : Nat} {tk te : TE} {fk fe : M D} (hp : OpE G tip g) (hk : Snd G W (RE G) tk fk) (he : Snd G W (RE G) te fe) : SndS G W fx (tAugS (tVar i) tk te (rIxL G.K) tip rSetL) (sAugL g i fk fe) := fun s σ B H rep Dd ok exc nn => by
  refine at_augL (i := i) rep hp hk he (fun _ H3 => Dd.nx σ H3) (fun a s1 _ B1 H1 e1 g1 r1 _ => ?_) (fun x s1 dd B1 H1 e1 g1 r1 q => exc x s1 σ dd B1 H1 (by simp only [sAugL, bnd, sNx, ret] at e1 ⊢; rw [e1]) g1.st r1 q) fun e => nn (by simp only [sAugL, bnd] at e ⊢; rw [e])
  exact ok .nx s1 σ B1 H1 (by simp only [sAugL, bnd, sNx, ret] at e1 ⊢; rw [e1]) g1.st r1
theorem opE_ipI {f : Int → Int → Int} : OpE G (ipI f) (i2 fun a b => .int (f a b)) := by
  intro B H x y v u d ex rx ry e Q q
  unfold i2 at e
  split at e
  · cases e; exact ⟨_, _, rx, ry, q _ B H (.refl ex) rfl⟩
  · cases e
/-! xs.index(e) -/
def asLst : D → Option Unit
  | .lst _ => some ()
  | _ => none
def eLst1 (g : D → D → Option D) (fa fb : M D) : M D := bnd fa fun x => bnd (opt (asLst x)) fun _ => bnd fb fun y => opt (g x y)
def idxD : D → D → Option D
  | .lst ds, x => if (okD x && okD (.lst ds)) = true then ((pys ds).findIdx? fun z => PyData.eqv z x.py).map fun j => .int (j : Nat) else none
  | _, _ => none
theorem snd_lm1 {rm : V → List V → Hp → VK → Prop} {gm : D → D → Option D} (ho : OpE G (Mt1 rm) gm) (ha : Snd G W (RE G) ta fa) (hb : Snd G W (RR G) tb fb) : Snd G W (RE G) (tBM G.K "list" rm ta (tCons tb tNil)) (eLst1 gm fa fb) := fun s σ B H rep =>
  At.seq (R2 := RE G) (t2 := fun (x : V) H1 Q => tyV G.K "list" x H1 ∧ (tCons tb tNil) σ H1 fun xs H2 => rm x xs H2 Q) (ha s σ B H rep) fun d s1 v B1 H1 e1 g1 r1 (q1 : RD G B1 d v) => by
    cases d with
    | lst ds =>
      obtain ⟨a, vs, rfl, h2, h3⟩ := id q1
      intro Q ok exc nn
      exact ⟨.inl ⟨rfl, vs, .of (r1.ex _ _ h2)⟩, At.seq (R2 := RE G) (t2 := fun (y : V) H2 Q => rm (.ref a) [y] H2 Q) (hb s1 σ B1 H1 r1) (fun d2 s2 u B2 H2 e2 g2 r2 q2 => at_opE (r := Mt1 rm) ho r2 (RD.toO r2.ex (RD.mono g2.b _ _ q1)) q2) Q (fun a s' b B' H' e => ok a s' b B' H' e) (fun x s' dd B' H' e => exc x s' dd B' H' e) fun e => nn e⟩
    | _ => exact fun Q ok exc nn => absurd rfl nn
theorem opE_idx : OpE G (Mt1 (rIndexD G.K)) idxD := by
  intro B H x y v u d ex rx ry e Q q
  unfold idxD at e
  split at e
  · rename_i ds
    split at e
    · rename_i hz
      simp only [okD, Bool.and_eq_true] at hz
      obtain ⟨j, e1, e2⟩ := Option.map_eq_some_iff.mp e
      cases e2
      obtain ⟨hj, h1, h2⟩ := List.findIdx?_eq_some_iff_getElem.mp e1
      have hd := rx.dp ex hz.2.1
      obtain ⟨a, vs, rfl, _⟩ := rx
      refine ⟨a, u, y.py, pys ds, j, (pys ds)[j], rfl, rfl, hd, ry.dp ex hz.1.1, hz.2.2, hz.1.2, List.getElem?_eq_getElem hj, h1, fun m z' hm hz' => ?_, q _ B H (.refl ex) rfl⟩
      have hml : m < (pys ds).length := by omega
      rw [List.getElem?_eq_getElem hml] at hz'
      rw [← Option.some.inj hz']
      simpa using h2 m hm
    · cases e
  · cases e
theorem snd_idx (ha : Snd G W (RE G) ta fa) (hb : Snd G W (RE G) tb fb) : Snd G W (RE G) (tBM G.K "list" (rIndexD G.K) ta (tCons tb tNil)) (eLst1 idxD fa fb) := snd_lm1 opE_idx ha hb.rd
/-! isinstance(x, str) -/
def isiStr : D → Option D
  | .str _ => some (.bl true)
  | .int _ => some (.bl false)
  | .bl _ => some (.bl false)
  | .non => some (.bl false)
  | _ => none
theorem unE_isiStr : UnE G (fun v H Q => rIsi G.K [v, .ty "str"] H Q) isiStr := by
  intro B H x v d ex rx e Q q
  unfold isiStr at e
  split at e
  · cases e; rw [show v = _ from rx]; exact ⟨_, _, _, _, true, rfl, .ty "str", .base (.str _), kit_ty (by decide +kernel), q _ B H (.refl ex) rfl⟩
  · cases e; rw [show v = _ from rx]; exact ⟨_, _, _, _, false, rfl, .ty "str", .base (.int _), kit_ty (by decide +kernel), q _ B H (.refl ex) rfl⟩
  · cases e; rw [show v = _ from rx]; exact ⟨_, _, _, _, false, rfl, .ty "str", .base (.bl _), kit_ty (by decide +kernel), q _ B H (.refl ex) rfl⟩
  · cases e; rw [show v = _ from rx]; exact ⟨_, _, _, _, false, rfl, .ty "str", .base .non, kit_ty (by decide +kernel), q _ B H (.refl ex) rfl⟩
  · cases e
theorem snd_isiStr (ha : Snd G W (RE G) ta fa) : Snd G W (RE G) (tCB (rIsi G.K) (tCons ta (tCons (tC (.ty "str")) tNil))) (eUn isiStr fa) := fun s σ B H rep =>
  At.seq (R2 := RE G) (t2 := fun (x : V) H1 Q => rIsi G.K [x, .ty "str"] H1 Q) (ha s σ B H rep) fun d s1 v B1 H1 e1 g1 r1 (q1 : RD G B1 d v) => at_unE (r := fun v H Q => rIsi G.K [v, .ty "str"] H Q) unE_isiStr r1 (RD.toO r1.ex q1)
/-! a, b = x, y -/
def parSlot : Bool → D → Slot
  | true, d => .own d
  | false, d => .sh d
def RX (G : Tb) : Bool → RL D V
  | true => RF G
  | false => RE G
instance {G : Tb} {b : Bool} : Back (RX G b) := ⟨fun {H H1 B' H' a v} k h => by
  cases b with
  | true => obtain ⟨p, h1, h2, h3⟩ := h; exact ⟨p, h1, k p h2, h3⟩
  | false => exact h⟩
def setPar (i j : Nat) (p q : Slot) : M Fl := sSeq (setS i p) (setS j q)
def sPar (i j : Nat) (b1 b2 : Bool) (f1 f2 : M D) : M Fl := bnd f1 fun x => bnd f2 fun y => setPar i j (parSlot b1 x) (parSlot b2 y)
/-- a value that waits to be stored -/
def Hld (G : Tb) (H0 B H : Hp) : Bool → D → V → Prop
  | false, d, v => RD G B d v
  | true, d, v => ∃ p, v = .ref p ∧ H0 p = none ∧ B p = none ∧ OwnAt G B H p d
theorem RX.hld {H0 B H : Hp} : ∀ {b : Bool} {d : D} {v : V}, RX G b H0 B H d v → Hld G H0 B H b d v
  | true, _, _, h => h
  | false, _, _, h => h
theorem Hld.gr {H0 B H B1 H1 : Hp} {s s1 : Sl} {σ : St} (g : Gr s σ B H s1 B1 H1) (hn : ∀ p, OwnS s σ p → H0 p ≠ none) : ∀ {b : Bool} {d : D} {v : V}, Hld G H0 B H b d v → Hld G H0 B1 H1 b d v
  | false, d, v, h => RD.mono g.b _ _ h
  | true, d, v, ⟨p, h1, h2, h3, h4⟩ => ⟨p, h1, h2, new_none g h3 h4.there, h4.mono g.b fun o z => g.keep p o z fun w => hn p w h2⟩
theorem Hld.rep {H0 B H : Hp} {s : Sl} {σ : St} {i : Nat} (rep : Rep G s σ B H) (hi : i < s.length) : ∀ {b : Bool} {d : D} {v : V}, Hld G H0 B H b d v → (∀ p, b = true → v = .ref p → ¬ OwnS s σ p) → Rep G (s.set i (parSlot b d)) (σ.set i (some v)) B H
  | false, d, v, h, _ => rep.setSh hi h
  | true, d, v, ⟨p, h1, h2, h3, h4⟩, hn => by subst h1; exact rep.setOwn hi h3 h4 (hn p rfl rfl)
theorem Hld.fresh {H0 B H : Hp} {b : Bool} {d : D} {p : Addr} (h : Hld G H0 B H b d (.ref p)) (e : b = true) : H0 p = none := by
  subst e
  obtain ⟨q, h1, h2, _⟩ := h
  cases h1; exact h2
theorem GrS.put {s s1 : Sl} {σ σ1 : St} {B H B1 H1 : Hp} {i : Nat} {b : Bool} {d : D} {v : V} (g : GrS fx s σ B H s1 σ1 B1 H1) (hf : i ∉ fx) (h : Hld G H B1 H1 b d v) : GrS fx s σ B H (s1.set i (parSlot b d)) (σ1.set i (some v)) B1 H1 := by
  refine ⟨g.b, g.keep, g.new, g.dom, fun a ⟨j, z⟩ => ?_, fun j hj => ?_⟩
  · rcases owns_set z with ⟨_, ⟨d', e⟩, e2⟩ | ⟨_, z⟩
    · cases b with
      | false => cases e
      | true => subst e2; exact .inr (h.fresh rfl)
    · exact g.own a ⟨j, z⟩
  · have q : j ≠ i := fun e => hf (e ▸ hj)
    rw [List.getElem?_set_ne (Ne.symm q), List.getElem?_set_ne (Ne.symm q)]
    exact g.fix j hj
theorem Rep.there {s : Sl} {σ : St} {B H : Hp} {p : Addr} (r : Rep G s σ B H) (h : OwnS s σ p) : H p ≠ none := fun z => r.nown z h
theorem sndS_par {i j : Nat} {b1 b2 : Bool} (hi : i ∉ fx) (hj : j ∉ fx) (h1 : Snd G W (RX G b1) ta fa) (h2 : Snd G W (RX G b2) tb fb) : SndS G W fx (tPar i j (tCons ta (tCons tb tNil))) (sPar i j b1 b2 fa fb) := fun s σ B H rep Dd ok exc nn => by
  refine h1 s σ B H rep _ (fun x s1 v B1 H1 e1 g1 r1 q1 => ?_) (fun x s1 dd B1 H1 e1 g1 r1 q1 => exc x s1 σ dd B1 H1 (by simp only [sPar, bnd, e1]) g1.st r1 q1) fun e => nn (by simp only [sPar, bnd, e])
  have ea : sPar i j b1 b2 fa fb s = bnd fb (fun y => setPar i j (parSlot b1 x) (parSlot b2 y)) s1 := by simp only [sPar, bnd, e1]
  refine h2 s1 σ B1 H1 r1 _ (fun y s2 w B2 H2 e2 g2 r2 q2 => ?_) (fun x s2 dd B2 H2 e2 g2 r2 q2 => exc x s2 σ dd B2 H2 (by rw [ea]; simp only [bnd, e2]) (g1.trans g2).st r2 q2) fun e => nn (by rw [ea]; simp only [bnd, e])
  have eb : sPar i j b1 b2 fa fb s = setPar i j (parSlot b1 x) (parSlot b2 y) s2 := by rw [ea]; simp only [bnd, e2]
  have g12 := g1.trans g2
  have l1 : Hld G H B2 H2 b1 x v := q1.hld.gr g2 fun p h => rep.there (g1.pat.own.1 h)
  have l2 : Hld G H B2 H2 b2 y w := by
    have z := q2.hld
    cases b2 with
    | false => exact z
    | true => obtain ⟨p, k1, k2, k3⟩ := z; exact ⟨p, k1, g1.back k2, k3⟩
  by_cases hil : i < s2.length
  · have ec : sPar i j b1 b2 fa fb s = setS j (parSlot b2 y) (s2.set i (parSlot b1 x)) := by rw [eb]; simp only [setPar, sSeq, bnd, setS, hil, if_true, seqK]
    obtain ⟨hjl, ed⟩ := setS_ok (fun z => nn (ec.trans z))
    have r3 := l1.rep r2 hil fun p e1 e2 h => rep.there (g12.pat.own.1 h) (by subst e2; exact l1.fresh e1)
    have r4 := l2.rep r3 hjl fun p e1 e2 ⟨k, h⟩ => by
      subst e2
      rcases owns_set h with ⟨_, ⟨d', e⟩, e2⟩ | ⟨_, h⟩
      · cases b1 with
        | false => cases e
        | true =>
          subst e2
          subst e1
          obtain ⟨p', k1, _, _, k4⟩ := q1.hld
          cases k1
          obtain ⟨p'', z1, z2, _⟩ := q2.hld
          cases z1
          exact k4.there z2
      · exact rep.there (g12.pat.own.1 ⟨k, h⟩) (l2.fresh e1)
    exact ⟨v, w, rfl, ok .nx _ _ B2 H2 (ec.trans ed) (((g12.st).put hi l1).put hj l2) r4⟩
  · exact absurd (by rw [eb]; simp only [setPar, sSeq, bnd, setS, hil, if_false]) nn
end
end DL

/-! ## DLy -/
namespace DL
open PySem L2
/-! ### functions -/
inductive FR where
  | ok (d : D)
  | exc (x : Exn)
  | no
abbrev PF := List D → FR
inductive FI where
  | ok (d x : D)
  | exc (e : Exn) (x : D)
  | no
abbrev IOF := D → List D → FI
def resF : Res Fl → FR
  | .ok (.rt d) _ => .ok d
  | .ok .nx _ => .ok .non
  | .exc x _ => .exc x
  | _ => .no
def own0 (s : Sl) : Option D := match s[0]? with
  | some (Slot.own x) => some x
  | _ => none
def resI : Res Fl → FI
  | .ok (.rt d) s => match own0 s with
    | some x => .ok d x
    | none => .no
  | .ok .nx s => match own0 s with
    | some x => .ok .non x
    | none => .no
  | .exc e s => match own0 s with
    | some x => .exc e x
    | none => .no
  | _ => .no
/-- a def of ps parameters, n names -/
def fnP (ps n : Nat) (body : M Fl) : PF := fun ds => if ds.length = ps then resF (body (ds.map .sh ++ List.replicate (n - ds.length) .un)) else .no
/-- .. whose first parameter is changed -/
def fnI (ps n : Nat) (body : M Fl) : IOF := fun x ds => if ds.length + 1 = ps then resI (body (.own x :: ds.map .sh ++ List.replicate (n - (ds.length + 1)) .un)) else .no
def spP (G : Tb) (ps : Nat) (g : PF) : Sp := fun vs H Q _ => ∃ B ds d, Ex B H ∧ RDs G B ds vs ∧ ds.length = ps ∧ g ds = .ok d ∧ ∀ v B' H', GrN B H B' H' → RD G B' d v → Q v H'
/-- new objects alone, but that a is changed -/
structure GrI (a : Addr) (B H B' H' : Hp) : Prop where
  b : Ex B B'
  h : ∀ p o, H p = some o → p ≠ a → H' p = some o
  ex : Ex B' H'
  nw : ∀ p, B' p ≠ none → B p ≠ none ∨ H p = none
def spI (G : Tb) (ps : Nat) (g : IOF) : Sp := fun vs H Q _ => ∃ B x a ds us d x', vs = .ref a :: us ∧ Ex B H ∧ B a = none ∧ OwnAt G B H a x ∧ RDs G B ds us ∧ ds.length + 1 = ps ∧ g x ds = .ok d x' ∧
  ∀ v B' H', GrI a B H B' H' → B' a = none → OwnAt G B' H' a x' → RD G B' d v → Q v H'
section
variable {G : Tb} {W : WX} {fx : List Nat}
theorem start_get {N : List Str} {vs : List V} {i : Nat} (h : i < vs.length) : (L2.start N vs)[i]? = some (some (vs[i])) := by
  unfold L2.start
  rw [List.getElem?_append_left (by simpa using h), List.getElem?_map, List.getElem?_eq_getElem h]; rfl
theorem start_len {N : List Str} {vs : List V} (h : vs.length ≤ N.length) : (L2.start N vs).length = N.length := by
  unfold L2.start; rw [List.length_append, List.length_map, List.length_replicate]; omega
theorem not_own_start {ds : List D} {k : Nat} {i : Nat} {d : D} (h : (ds.map Slot.sh ++ List.replicate k Slot.un)[i]? = some (.own d)) : False := by
  by_cases hi : i < ds.length
  · rw [List.getElem?_append_left (by simpa using hi), List.getElem?_map, List.getElem?_eq_getElem hi] at h
    cases h
  · rw [List.getElem?_append_right (by simpa using hi), List.getElem?_replicate] at h
    split at h <;> cases h
theorem rep_start {B H : Hp} {N : List Str} {ds : List D} {vs : List V} (ex : Ex B H) (r : RDs G B ds vs) (h : vs.length ≤ N.length) : Rep G (ds.map .sh ++ List.replicate (N.length - ds.length) .un) (L2.start N vs) B H := by
  refine ⟨ex, ?_, fun i sl e => ?_, fun i j a ⟨⟨d, h1⟩, _⟩ => (not_own_start h1).elim⟩
  · rw [start_len h, List.length_append, List.length_map, List.length_replicate]; have := r.len; omega
  · by_cases hi : i < ds.length
    · rw [List.getElem?_append_left (by simpa using hi), List.getElem?_map, List.getElem?_eq_getElem hi] at e
      cases e
      obtain ⟨v, h1, h2⟩ := r.get (List.getElem?_eq_getElem hi)
      have hv : i < vs.length := by rw [r.len]; exact hi
      refine ⟨v, ?_, h2⟩
      rw [start_get hv]
      rw [List.getElem?_eq_getElem hv] at h1
      rw [Option.some.inj h1]
    · rw [List.getElem?_append_right (by simpa using hi), List.getElem?_replicate] at e
      split at e
      · cases e; trivial
      · cases e
theorem SndS.runP {t : TS} {body : M Fl} {ps : Nat} {N : List Str} (h : SndS G W0 [] t body) (hps : ps ≤ N.length) {vs : List V} {H : Hp} {Q : VK} {E : XK} (hs : spP G ps (fnP ps N.length body) vs H Q E) : t { nx := fun _ H' => Q .non H', rt := Q } (L2.start N vs) H := by
  obtain ⟨B, ds, d, ex, r, hl, hg, k⟩ := hs
  unfold fnP at hg
  rw [if_pos hl] at hg
  have rep := rep_start (N := N) ex r (by rw [r.len]; omega)
  have no : ∀ p, ¬ OwnS (ds.map Slot.sh ++ List.replicate (N.length - ds.length) Slot.un) (L2.start N vs) p := fun p ⟨i, ⟨d, h1⟩, _⟩ => not_own_start h1
  refine h _ _ B H rep _ (fun fl s' σ' B' H' e g r' => ?_) (fun x s' σ' dd B' H' e => by rw [e] at hg; cases hg) fun e => by rw [e] at hg; cases hg
  rw [e] at hg
  have gn : GrN B H B' H' := ⟨g.b, fun a o z => g.keep a o z (no a), r'.ex, fun a z => by
    rcases g.new a z with y | y | y
    · exact .inl y
    · exact .inr y
    · exact absurd y (no a)⟩
  cases fl with
  | nx => cases hg; exact k .non B' H' gn rfl
  | rt d' => cases hg; exact fun v hv => k v B' H' gn hv
  | bk => cases hg
  | ct => cases hg
theorem Snd.okW0' {α β : Type} {R : RL α β} {t : TX β} {f : M α} (h : Snd G W0 R t f) {s : Sl} {σ : St} {B H : Hp} (rep : Rep G s σ B H) (hx : ∀ x s', f s ≠ .exc x s') (hn : f s ≠ .no) {Q : β → Hp → Prop}
    (k : ∀ a s1 b B' H', f s = .ok a s1 → Gr s σ B H s1 B' H' → Rep G s1 σ B' H' → R H B' H' a b → Q b H') : t σ H Q :=
  h s σ B H rep Q (fun a s' b B' H' e g r q => k a s' b B' H' e g r q) (fun x s' dd B' H' e => absurd e (hx x s')) hn
theorem spP_len {ps : Nat} {g : PF} {vs : List V} {H : Hp} {Q : VK} {E : XK} (h : spP G ps g vs H Q E) : vs.length = ps := by
  obtain ⟨B, ds, d, ex, r, hl, _⟩ := h
  rw [r.len]; exact hl
theorem rep_startI {B H : Hp} {N : List Str} {x : D} {a : Addr} {ds : List D} {us : List V} (ex : Ex B H) (hb : B a = none) (hO : OwnAt G B H a x) (r : RDs G B ds us) (h : us.length + 1 ≤ N.length) :
    Rep G (.own x :: ds.map .sh ++ List.replicate (N.length - (ds.length + 1)) .un) (L2.start N (.ref a :: us)) B H := by
  have e0 : (Slot.own x :: ds.map Slot.sh ++ List.replicate (N.length - (ds.length + 1)) Slot.un) = Slot.own x :: (ds.map Slot.sh ++ List.replicate (N.length - (ds.length + 1)) Slot.un) := rfl
  rw [e0]
  have ow : ∀ i p, Owns (Slot.own x :: (ds.map Slot.sh ++ List.replicate (N.length - (ds.length + 1)) Slot.un)) (L2.start N (.ref a :: us)) i p → i = 0 := fun i p ⟨⟨d, h1⟩, _⟩ => by
    cases i with
    | zero => rfl
    | succ i => rw [List.getElem?_cons_succ] at h1; exact (not_own_start h1).elim
  refine ⟨ex, ?_, fun i sl e => ?_, fun i j p h1 h2 => by rw [ow i p h1, ow j p h2]⟩
  · rw [start_len (by simpa using h), List.length_cons, List.length_append, List.length_map, List.length_replicate]; have := r.len; omega
  · cases i with
    | zero => cases e; exact ⟨a, start_get (by simp), hb, hO⟩
    | succ i =>
      rw [List.getElem?_cons_succ] at e
      by_cases hi : i < ds.length
      · rw [List.getElem?_append_left (by simpa using hi), List.getElem?_map, List.getElem?_eq_getElem hi] at e
        cases e
        obtain ⟨v, h1, h2⟩ := r.get (List.getElem?_eq_getElem hi)
        have hv : i < us.length := by rw [r.len]; exact hi
        refine ⟨v, ?_, h2⟩
        rw [start_get (by simpa using hv)]
        rw [List.getElem?_eq_getElem hv] at h1
        rw [← Option.some.inj h1]; rfl
      · rw [List.getElem?_append_right (by simpa using hi), List.getElem?_replicate] at e
        split at e
        · cases e; trivial
        · cases e
theorem SndS.runI {t : TS} {body : M Fl} {ps : Nat} {N : List Str} (h : SndS G W0 [0] t body) (hps : ps ≤ N.length) {vs : List V} {H : Hp} {Q : VK} {E : XK} (hs : spI G ps (fnI ps N.length body) vs H Q E) : t { nx := fun _ H' => Q .non H', rt := Q } (L2.start N vs) H := by
  obtain ⟨B, x, a, ds, us, d, x', rfl, ex, hb, hO, r, hl, hg, k⟩ := hs
  unfold fnI at hg
  rw [if_pos hl] at hg
  have rep := rep_startI (N := N) ex hb hO r (by rw [r.len]; omega)
  generalize hs0 : (Slot.own x :: ds.map Slot.sh ++ List.replicate (N.length - (ds.length + 1)) Slot.un) = s0 at hg rep
  have h0 : s0[0]? = some (.own x) := by rw [← hs0]; rfl
  have hσ0 : (L2.start N (.ref a :: us))[0]? = some (some (.ref a)) := start_get (by simp)
  have ow : ∀ p, OwnS s0 (L2.start N (.ref a :: us)) p → p = a := fun p ⟨i, ⟨d, h1⟩, h2⟩ => by
    rw [← hs0] at h1
    cases i with
    | zero => rw [hσ0] at h2; cases h2; rfl
    | succ i => exact (not_own_start (show (ds.map Slot.sh ++ List.replicate (N.length - (ds.length + 1)) Slot.un)[i]? = some (.own d) from h1)).elim
  refine h _ _ B H rep _ (fun fl s' σ' B' H' e g r' => ?_) (fun x s' σ' dd B' H' e => ?_) fun e => by rw [e] at hg; cases hg
  · rw [e] at hg
    obtain ⟨f1, f2⟩ := g.fix 0 (by simp)
    obtain ⟨x2, h2⟩ := f2 x h0
    obtain ⟨a', w1, w2, w3⟩ := r'.slot 0 _ h2
    rw [f1, hσ0] at w1
    cases w1
    have eo : own0 s' = some x2 := by unfold own0; rw [h2]
    have gn : GrI a B H B' H' := ⟨g.b, fun p o z n => g.keep p o z fun y => n (ow p y), r'.ex, fun p z => by
      rcases g.new p z with y | y | y
      · exact .inl y
      · exact .inr y
      · have := ow p y; subst this; exact absurd w2 z⟩
    cases fl with
    | nx => simp only [resI, eo] at hg; cases hg; exact k .non B' H' gn w2 w3 rfl
    | rt d' => simp only [resI, eo] at hg; cases hg; exact fun v hv => k v B' H' gn w2 w3 hv
    | bk => cases hg
    | ct => cases hg
  · rw [e] at hg
    simp only [resI] at hg
    split at hg <;> cases hg
theorem spI_len {ps : Nat} {g : IOF} {vs : List V} {H : Hp} {Q : VK} {E : XK} (h : spI G ps g vs H Q E) : vs.length = ps := by
  obtain ⟨B, x, a, ds, us, d, x', rfl, ex, hb, hO, r, hl, _⟩ := h
  rw [List.length_cons, r.len]; exact hl
/-! calls -/
def okFR : FR → Option D
  | .ok d => some d
  | _ => none
def eCall (g : PF) (dds : List D) (fa : M (List D)) : M D := bnd fa fun ds => opt (okFR (g (ds ++ dds)))
theorem snd_call {ps : Nat} {g : PF} {dds : List D} {dvs : List V} {E : XK} {tr : TA} {fr : M (List D)} (hd : ∀ B, RDs G B dds dvs) (hn : ∀ ds d, g ds = .ok d → ds.length = ps) (ha : Snd G W (RA G) tr fr) : Snd G W (RE G) (tCall (spP G ps g) dvs E tr) (eCall g dds fr) := fun s σ B H rep =>
  At.seq (R2 := RE G) (t2 := fun (vs : List V) H1 Q => spP G ps g (vs ++ dvs) H1 Q E) (ha s σ B H rep) fun ds s1 vs B1 H1 e1 g1 r1 (q1 : RDs G B1 ds vs) =>
    At.grN r1 fun Q ok nn => by
      cases e : g (ds ++ dds) with
      | ok d => exact ⟨B1, ds ++ dds, d, r1.ex, q1.append (hd B1), hn _ _ e, e, fun v B' H' gr h => ok d v B' H' (by rw [e]; rfl) gr h⟩
      | exc x => exact absurd (by rw [e]; rfl) nn
      | no => exact absurd (by rw [e]; rfl) nn
/-- a def that gives back a new thing -/
def spF (G : Tb) (ps : Nat) (g : PF) : Sp := fun vs H Q _ => ∃ B ds d, Ex B H ∧ RDs G B ds vs ∧ ds.length = ps ∧ g ds = .ok d ∧ ∀ p B' H', GrN B H B' H' → H p = none → B' p = none → OwnAt G B' H' p d → Q (.ref p) H'
theorem snd_callF {ps : Nat} {g : PF} {E : XK} {tr : TA} {fr : M (List D)} (hn : ∀ ds d, g ds = .ok d → ds.length = ps) (ha : Snd G W (RA G) tr fr) : Snd G W (RF G) (tCall (spF G ps g) [] E tr) (eCall g [] fr) := fun s σ B H rep =>
  At.seq (R2 := RF G) (t2 := fun (vs : List V) H1 Q => spF G ps g (vs ++ []) H1 Q E) (ha s σ B H rep) fun ds s1 vs B1 H1 e1 g1 r1 (q1 : RDs G B1 ds vs) =>
    At.grN r1 fun Q ok nn => by
      cases e : g (ds ++ []) with
      | ok d => exact ⟨B1, ds ++ [], d, r1.ex, q1.append rfl, hn _ _ e, e, fun p B' H' gr h1 h2 h3 => ok d _ B' H' (by rw [e]; rfl) gr ⟨p, rfl, h1, h2, h3⟩⟩
      | exc x => exact absurd (by rw [e]; rfl) nn
      | no => exact absurd (by rw [e]; rfl) nn
/-- its body: statements, then what is given back -/
def fnF (ps n : Nat) (init : M Fl) (last : M D) : PF := fun ds => if ds.length = ps then resF (sSeq init (sRet last) (ds.map .sh ++ List.replicate (n - ds.length) .un)) else .no
theorem spF_len {ps : Nat} {g : PF} {vs : List V} {H : Hp} {Q : VK} {E : XK} (h : spF G ps g vs H Q E) : vs.length = ps := by
  obtain ⟨B, ds, d, ex, r, hl, _⟩ := h
  rw [r.len]; exact hl
/-- the statements end by falling through -/
def noRt (f : M Fl) : Prop := ∀ s d s', f s ≠ .ok (.rt d) s'
theorem runF {t : TS} {te : TE} {init : M Fl} {last : M D} {ps : Nat} {N : List Str} (h : SndS G W0 [] t init) (hl' : Snd G W0 (RF G) te last) (hr : noRt init) (hps : ps ≤ N.length) {vs : List V} {H : Hp} {Q : VK} {E : XK} (hs : spF G ps (fnF ps N.length init last) vs H Q E) : tSeq t (tRet te) { nx := fun _ H' => Q .non H', rt := Q } (L2.start N vs) H := by
  obtain ⟨B, ds, d, ex, r, hl, hg, k⟩ := hs
  unfold fnF at hg
  rw [if_pos hl] at hg
  have rep := rep_start (N := N) ex r (by rw [r.len]; omega)
  have no : ∀ p, ¬ OwnS (ds.map Slot.sh ++ List.replicate (N.length - ds.length) Slot.un) (L2.start N vs) p := fun p ⟨i, ⟨d, h1⟩, _⟩ => not_own_start h1
  refine h _ _ B H rep _ (fun fl s' σ' B' H' e g r' => ?_) (fun x s' σ' dd B' H' e => by simp only [sSeq, bnd, e] at hg; cases hg) fun e => by simp only [sSeq, bnd, e] at hg; cases hg
  have gn : GrN B H B' H' := ⟨g.b, fun a o z => g.keep a o z (no a), r'.ex, fun a z => by
    rcases g.new a z with y | y | y
    · exact .inl y
    · exact .inr y
    · exact absurd y (no a)⟩
  have e2 : sSeq init (sRet last) (ds.map .sh ++ List.replicate (N.length - ds.length) .un) = seqK (sRet last) fl s' := by simp only [sSeq, bnd, e]
  rw [e2] at hg
  cases fl with
  | nx =>
    have hg2 : resF (sRet last s') = .ok d := hg
    refine hl'.okW0' r' (fun x s2 e3 => by simp only [sRet, bnd, e3] at hg2; cases hg2) (fun e3 => by simp only [sRet, bnd, e3] at hg2; cases hg2) fun a s2 v B2 H2 e3 g2 r2 q2 => ?_
    simp only [sRet, bnd, e3, ret, resF] at hg2
    cases hg2
    obtain ⟨p, rfl, h1, h2, h3⟩ := q2
    refine k p B2 H2 ⟨gn.b.trans g2.b, fun a o z => g2.keep a o (gn.h a o z) fun y => ?_, r2.ex, fun a z => ?_⟩ (gn.h.back h1) h2 h3
    · rcases g.own a y with w | w
      · exact no a w
      · rw [w] at z; cases z
    · rcases g2.new a z with w | w
      · exact gn.nw a w
      · exact .inr (gn.h.back w)
  | rt d' => exact absurd e (hr _ _ _)
  | bk => cases hg
  | ct => cases hg
theorem fnP_len {ps n : Nat} {body : M Fl} {ds : List D} {d : D} (h : fnP ps n body ds = .ok d) : ds.length = ps := by
  unfold fnP at h
  split at h
  · assumption
  · cases h
def modI (i : Nat) (g : D → FI) : M D := fun s => match s[i]? with
  | some (.own x) => match g x with
    | .ok d x' => .ok d (s.set i (.own x'))
    | _ => .no
  | _ => .no
def tyAny : D → Bool := fun _ => true
def eCallI (i : Nat) (g : IOF) (fa : M (List D)) : M D := bnd (ownIs tyAny i) fun _ => bnd fa fun ds => modI i fun x => g x ds
theorem Rep.modI {i : Nat} {x x' : D} {a : Addr} {s : Sl} {σ : St} {B H B' H' : Hp} (r : Rep G s σ B H) (e : s[i]? = some (.own x)) (ea : σ[i]? = some (some (.ref a))) (g : GrI a B H B' H') (hb : B' a = none) (hO : OwnAt G B' H' a x') :
    Rep G (s.set i (.own x')) σ B' H' ∧ Gr s σ B H (s.set i (.own x')) B' H' := by
  have hi : i < s.length := (List.getElem?_eq_some_iff.mp e).1
  have hpat : Pat s (s.set i (.own x')) := by
    refine ⟨List.length_set, fun j => ?_⟩
    by_cases q : j = i
    · subst q; rw [List.getElem?_set_self hi, e]; exact ⟨fun _ => ⟨_, rfl⟩, fun _ => ⟨_, rfl⟩⟩
    · rw [List.getElem?_set_ne (Ne.symm q)]
  have hown : OwnS s σ a := ⟨i, ⟨x, e⟩, ea⟩
  refine ⟨⟨g.ex, by rw [List.length_set]; exact r.len, fun j sl z => ?_, fun j k p z1 z2 => r.sep j k p (owns_set1 e |>.1 z1) (owns_set1 e |>.1 z2)⟩, ⟨g.b, fun p u z n => g.h p u z fun q => n (q ▸ hown), g.nw, fun p z => ?_, hpat⟩⟩
  · by_cases q : j = i
    · subst q
      rw [List.getElem?_set_self hi] at z; cases z
      exact ⟨a, ea, hb, hO⟩
    · rw [List.getElem?_set_ne (Ne.symm q)] at z
      have w := r.slot j sl z
      cases sl with
      | un => trivial
      | sh d => obtain ⟨v, w1, w2⟩ := w; exact ⟨v, w1, w2.mono g.b⟩
      | own d =>
        obtain ⟨b, q1, q2, q3⟩ := w
        have nb : b ≠ a := fun k => by
          subst k
          exact q (r.sep j i b ⟨⟨d, z⟩, q1⟩ ⟨⟨x, e⟩, ea⟩)
        refine ⟨b, q1, ?_, q3.mono g.b fun o z => g.h b o z nb⟩
        by_cases k : B' b = none
        · exact k
        · rcases g.nw b k with y | y
          · exact absurd q2 y
          · exact absurd y q3.there
  · by_cases q : p = a
    · rw [q]; exact hO.there
    · cases k : H p with
      | none => exact absurd k z
      | some o => rw [g.h p o k q]; exact fun y => by cases y
theorem snd_callI {i ps : Nat} {g : IOF} {E : XK} {tr : TA} {fr : M (List D)} (hn : ∀ x ds d x', g x ds = .ok d x' → ds.length + 1 = ps) (ha : Snd G W (RA G) tr fr) : Snd G W (RE G) (tCall (spI G ps g) [] E (tCons (tVar i) tr)) (eCallI i g fr) := fun s σ B H rep =>
  at_recv (R := RE G) (t := fun x Q => tr σ H fun xs H2 => spI G ps g (x :: xs ++ []) H2 Q E) rep fun a x e ea hO hp => by
    refine At.seq (R2 := RE G) (t2 := fun (us : List V) H1 Q => spI G ps g (V.ref a :: us ++ []) H1 Q E) (ha s σ B H rep) fun ds s1 us B1 H1 e1 g1 r1 (q1 : RDs G B1 ds us) => ?_
    intro Q ok exc nn
    cases e2 : s1[i]? with
    | none => exact absurd (by simp only [modI, e2]) nn
    | some sl =>
      cases sl with
      | un => exact absurd (by simp only [modI, e2]) nn
      | sh d => exact absurd (by simp only [modI, e2]) nn
      | own y =>
        obtain ⟨a', h1, h2, h3⟩ := r1.slot i _ e2
        rw [ea] at h1; cases h1
        cases eg : g y ds with
        | no => exact absurd (by simp only [modI, e2, eg]) nn
        | exc z y' => exact absurd (by simp only [modI, e2, eg]) nn
        | ok d y' =>
          refine ⟨B1, y, a, ds, us, d, y', by rw [List.append_nil], r1.ex, h2, h3, q1, hn _ _ _ _ eg, eg, fun v B' H' gr hb hO' hv => ?_⟩
          obtain ⟨r2, g2⟩ := r1.modI e2 ea gr hb hO'
          exact ok d _ v B' H' (by simp only [modI, e2, eg]) g2 r2 hv
theorem fnI_len {ps n : Nat} {body : M Fl} {x : D} {ds : List D} {d x' : D} (h : fnI ps n body x ds = .ok d x') : ds.length + 1 = ps := by
  unfold fnI at h
  split at h
  · assumption
  · cases h
/-! making an instance -/
def eMake (C : Nat) (g : IOF) (dds : List D) (fa : M (List D)) : M D := bnd fa fun ds => fun s => match g (.obj C []) (ds ++ dds) with
  | .ok .non x' => .ok x' s
  | _ => .no
theorem snd_make {C ps : Nat} {g : IOF} {dds : List D} {dvs : List V} {E : XK} {tr : TA} {fr : M (List D)} (hd : ∀ B, RDs G B dds dvs) (hn : ∀ x ds d x', g x ds = .ok d x' → ds.length + 1 = ps) (ha : Snd G W (RA G) tr fr) : Snd G W (RF G) (tMake (G.ca C) (spI G ps g) dvs E tr) (eMake C g dds fr) := fun s σ B H rep =>
  At.seq (R2 := RF G) (t2 := fun (vs : List V) H1 Q => ∀ x dx, H1 x = none → H1 dx = none → dx ≠ x → spI G ps g (.ref x :: (vs ++ dvs)) (upd (upd H1 dx (.own x)) x (.ins (G.ca C) dx [])) (fun v H2 => v = .non ∧ Q (.ref x) H2) E) (ha s σ B H rep) fun ds s1 vs B1 H1 e1 g1 r1 (q1 : RDs G B1 ds vs) => by
    intro Q ok exc nn x dx hx1 hdx hne
    cases e : g (.obj C []) (ds ++ dds) with
    | no => exact absurd (by simp only [e]) nn
    | exc z y' => exact absurd (by simp only [e]) nn
    | ok d y' =>
      cases d with
      | non =>
        have h2 : (upd H1 dx (.own x)) x = none := by rw [upd_ne (Ne.symm hne)]; exact hx1
        have ex2 : Ex B1 (upd (upd H1 dx (.own x)) x (.ins (G.ca C) dx [])) := r1.ex.trans ((Ex.new hdx).trans (Ex.new h2))
        have r2 : Rep G s1 σ B1 (upd (upd H1 dx (.own x)) x (.ins (G.ca C) dx [])) := (r1.newF hdx).newF h2
        refine ⟨B1, .obj C [], x, ds ++ dds, vs ++ dvs, .non, y', rfl, ex2, r1.ex.back hx1, ⟨dx, [], upd_same, rfl⟩, q1.append (hd B1), hn _ _ _ _ e, e, fun v B' H' gr hb hO' hv => ⟨hv, ?_⟩⟩
        have gg : Gr s1 σ B1 H1 s1 B' H' := by
          refine ⟨gr.b, fun p o z n => gr.h p o ?_ fun q => ?_, fun p z => ?_, fun p z => ?_, .refl _⟩
          · rw [upd_ne (ne_of_none z hx1), upd_ne (ne_of_none z hdx)]; exact z
          · subst q; rw [hx1] at z; cases z
          · rcases gr.nw p z with y | y
            · exact .inl y
            · refine .inr ?_
              by_cases q : p = x
              · rw [q]; exact hx1
              · rw [upd_ne q] at y
                by_cases q' : p = dx
                · rw [q']; exact hdx
                · rw [upd_ne q'] at y; exact y
          · by_cases q : p = x
            · rw [q]; exact hO'.there
            · cases k : H1 p with
              | none => exact absurd k z
              | some o =>
                rw [gr.h p o (by rw [upd_ne q, upd_ne (ne_of_none k hdx)]; exact k) q]; exact fun y => by cases y
        refine ok y' s1 _ B' H' (by simp only [e]) gg ?_ ⟨x, rfl, hx1, hb, hO'⟩
        refine ⟨gr.ex, r1.len, fun i sl z => ?_, r1.sep⟩
        have w := r1.slot i sl z
        cases sl with
        | un => trivial
        | sh d => obtain ⟨v, w1, w2⟩ := w; exact ⟨v, w1, w2.mono gr.b⟩
        | own d =>
          obtain ⟨b, w1, w2, w3⟩ := w
          exact ⟨b, w1, new_none gg w2 w3.there, w3.mono gr.b fun o y => gr.h b o (by rw [upd_ne (ne_of_none y hx1), upd_ne (ne_of_none y hdx)]; exact y) (ne_of_none y hx1)⟩
      | _ => exact absurd (by simp only [e]) nn
end
end DL

/-! ## DLz -/
namespace L2
open PySem PySem.Spec PyProof.Rows
/-! ### a def that asks that nothing is being shown: repr -/
structure FnD (P : Program) (w : World) (K : PySem.W.Frag) (mg : Str → Option Value) (base : Heap) (k : Nat) (f : Addr) (fd : FuncData) (ps : List Str) (sp : Sp) : Prop where
  len : ∀ vs H Q E, sp vs H Q E → vs.length = ps.length
  run : ∀ (A : Around) (outer : List Env) (s : Shared) (H : Hp) (args : Args) (us : List Value) (vs : List V) (Q : VK) (E : XK), A.guards = some [] → Room k A → Env0 P w K mg base A outer s H → BindsTo s fd args (ps.zip us) → Vals vs us → sp vs H Q E →
    codeAny (model P w) A (.call (.ref f) args) (CR CX0 outer P w H s Q E) s
theorem Around.deeper_guards (A : Around) (env : Env) : (A.deeper env).guards = A.guards := rfl
theorem fnD_of {P : Program} {w : World} {K : PySem.W.Frag} {mg : Str → Option Value} {base : Heap} {k : Nat} {f : Addr} {name qual : Str} {params : Arguments} {body : List Stmt} {scope : Scope} {dV kV doc pm cdv ct oc : Value} {an od : Option Addr}
    {osl : Array (Option Value)} {N ps : List Str} {sp : Sp} (lk : K.lookup f = some ⟨oc, od, .func (PySem.W.fnOf name qual params body scope dV kV doc pm an cdv ct), osl⟩) (hcd : PySem.W.codeIn K cdv qual = true) (S : FnScope N ps scope)
    (len : ∀ vs H Q E, sp vs H Q E → vs.length = ps.length)
    (hbody : ∀ (A : Around) (outer : List Env) (s : Shared) (H : Hp) (vs : List V) (Q : VK) (E : XK), A.guards = some [] → Room k (A.deeper (envOfC qual scope s.heap.objs.size f cdv)) → sp vs H Q E →
      ∃ t, PSs (cxOf CX0 P w K mg base N qual scope f cdv A outer s H E) body t ∧ t { nx := fun _ H' => Q .non H', rt := Q } (L2.start N vs) H) :
    FnD P w K mg base (k + 1) f (PySem.W.fnOf name qual params body scope dV kV doc pm an cdv ct) ps sp := by
  refine ⟨len, fun A outer s H args us vs Q E hgd hr e0 hb r hsp => ?_⟩
  have hl := len _ _ _ _ hsp
  have KX : K.In s.heap := e0.mod.kin.keeps fun b o e => (e0.bs b o e).1
  have lim : s.heap.NoLimit := e0.mod.nolimit.keeps fun b o e => (e0.bs b o e).1
  have hkind : ∀ y ∈ ps.zip us, scope.names.lookup y.1 = some .local ∨ (scope.names.lookup y.1 = some .cell ∧ ((cellsFrom (s.heap.objs.size + 1) scope.names []).lookup y.1).isSome = true) := fun ⟨n, v⟩ hy => by
    rcases S.par n (List.of_mem_zip hy).1 with q | q
    · exact .inl q
    · exact .inr ⟨q, PySem.W.cellsFrom_some _ _ _ (.inl q)⟩
  refine codeAny_call_function hr.depth (KX _ _ lk) rfl S.co S.gen rfl (PySem.W.codeRec_of KX hcd) (hb _ _ _ _ ?_)
  refine wpAny_newFunctionEnv_cells S.kind hkind fun env he s1 x => ?_
  subst he
  refine ⟨lim.keeps x.toInCall.keep, codeAny_func ?_⟩
  obtain ⟨t, ht, hq⟩ := hbody A outer s H vs Q E hgd (hr.deeper _) hsp
  have I : Inv (cxOf CX0 P w K mg base N qual scope f cdv A outer s H E) [] (L2.start N vs) H s1 := inv_start S hr.hd e0 hl r x
  refine wpAny_mono (ht.run [] s1 (L2.start N vs) H _ I hq) (fun fl s' hs => ?_) fun e s' hs => hs
  have fin : ∀ {σ' : St} {H' : Hp} {v : V} {u : Value}, Inv (cxOf CX0 P w K mg base N qual scope f cdv A outer s H E) [] σ' H' s' → RelV v u → Q v H' → CE outer P w H s Q u s' :=
    fun {σ' H' v u} J rv q => ⟨v, H', J.os, J.bare, J.base, J.hok, rv, q⟩
  cases fl with
  | ret u =>
    obtain ⟨v, σ', H', J, rv, q⟩ := hs
    exact fin J rv q
  | next =>
    obtain ⟨σ', H', J, q⟩ := hs
    exact fin (v := V.non) (u := Value.none) J rfl q
  | brk =>
    obtain ⟨_, _, _, q⟩ := hs
    exact False.elim q
  | cont =>
    obtain ⟨_, _, _, q⟩ := hs
    exact False.elim q
theorem Fun.okD {P : Program} {w : World} {K : PySem.W.Frag} {mg : Str → Option Value} {base : Heap} {x qual : Str} {st : Stmt} {f : Addr} {fd : FuncData} {N ps : List Str} {k : Nat} {sp : Sp} (F : Fun K x qual st f fd) (S : FnScope N ps (defScope st)) (len : ∀ vs H Q E, sp vs H Q E → vs.length = ps.length)
    (hbody : ∀ (cdv : Value) (A : Around) (outer : List Env) (s : Shared) (H : Hp) (vs : List V) (Q : VK) (E : XK), A.guards = some [] → Room k (A.deeper (envOfC qual (defScope st) s.heap.objs.size f cdv)) → sp vs H Q E →
      ∃ t, PSs (cxOf CX0 P w K mg base N qual (defScope st) f cdv A outer s H E).nox (defBody st) t ∧ t { nx := fun _ H' => Q .non H', rt := Q } (L2.start N vs) H) : FnD P w K mg base (k + 1) f fd ps sp := by
  obtain ⟨oc, od, kV, doc, pm, an, cdv, ct, osl, rfl, lk, hcd⟩ := F.ex
  refine fnD_of lk hcd S len fun A outer s H vs Q E hg hr hsp => ?_
  obtain ⟨t, h, q⟩ := hbody cdv A outer s H vs Q E hg hr hsp
  exact ⟨t, h.nox, q⟩
section
variable {X : Cx} {k : Nat} {f : Addr} {fd : FuncData} {ps : List Str} {sp : Sp} {dvs : List V} {ds : List Value} {E : XK} {x : Str} {p pos : Pos} {e : Expr} {es : List Expr} {t : TA}
theorem run_fnD {pins : List (Addr × Obj)} {σ : St} {H : Hp} {s : Shared} {Q : VK} {us : List Value} {vs : List V} (F : FnD X.prog X.w X.K X.mg X.base k f fd ps sp) (hgd : X.A.guards = some []) (hr : Room k X.A) (hb : Binds X.K fd ps ds) (hd : Vals dvs ds)
    (I : Inv X pins σ H s) (r : Vals vs us) (h : sp (vs ++ dvs) H Q E) : wpAny (model X.prog X.w) X.A (call (.ref f) us) (EP X pins σ Q) X.xe s := by
  have r2 : Vals (vs ++ dvs) (us ++ ds) := r.append hd
  have hl : (us ++ ds).length = ps.length := by rw [← r2.length]; exact F.len _ _ _ _ h
  refine wpAny_call (codeAny_mono (F.run X.A X.stack s H ⟨us, []⟩ (us ++ ds) (vs ++ dvs) Q E hgd hr I.env0 (hb s us I.kIn hl) r2 h) fun r s' hq => ?_)
  cases r with
  | error e => exact hq.elim
  | ok fl =>
    cases fl with
    | ret u => exact I.after hq
    | next => exact False.elim hq
    | brk => exact False.elim hq
    | cont => exact False.elim hq
theorem pe_callD (F : FnD X.prog X.w X.K X.mg X.base k f fd ps sp) (hgd : X.A.guards = some []) (hr : Room k X.A) (hg : Gl X x) (hm : X.mg x = some (.ref f)) (hk : PySem.W.keepIn X.K (.ref f) = true) (hb : Binds X.K fd ps ds) (hd : Vals dvs ds)
    (ha : PA X (e :: es) t) (hdb : (x == ("__debug__" : Str)) = false := by decide) (he : starEach (e :: es) X.env = (false, eval e X.env) :: starEach es X.env := by rfl) (hpl : (backTo pos (starEach es X.env)).any (·.1) = false := by rfl) :
    PE X (.Call (.Name x p) (e :: es) [] pos) (tCall sp dvs E t) := by
  refine ⟨fun pins s σ H Q I h => ?_⟩
  refine wpAny_Call_Name_kw (ld_glob I hg hm ?_ hdb)
  refine PySem.W.callWith_K (h₀ := X.base) I.ok.mod.kin hk (thn (ha.run pos pins s σ H _ I h) fun us s1 ⟨vs, H1, I1, r, q⟩ => ⟨I1.kIn, ?_⟩) he hpl
  exact run_fnD F hgd hr hb hd I1 r q
end
/-- the law's promise -/
theorem law_callD {P : Program} {w : World} {K : PySem.W.Frag} {mg mb : Str → Option Value} {k : Nat} {fa a : Addr} {fd : FuncData} {x : Str} {sp : Sp} {s₁ : Shared} {vs : List Value} {ns : List Int}
    (KX : K.In s₁.heap) (hns : s₁.heap.Ns mainGlobals mg) (hb : s₁.heap.Ns builtinsNs mb) (hbb : ∀ x : Str, x ≠ "__name__" → mb x = bootBuiltins x) (hlim : s₁.heap.NoLimit) (hg : s₁.gens = #[])
    (ha : s₁.heap.get? a = some { cls := .type "list", data := .seq vs.toArray }) (hi : IntsAre vs ns) (hl : ns.length ≤ sizeLine) (hr : Room k callerA)
    (F : ∀ base : Heap, K.In base → base.Ns mainGlobals mg → FnD P w K mg base k fa fd [x] sp) (hbind : ∀ (s : Shared) (u : Value), BindsTo s fd ⟨[u], []⟩ [(x, u)])
    (hsp : ∀ H : Hp, Only H → SqL K H a (ns.map V.int) → sp [.ref a] H (fun v _ => v = .bl true) fun _ _ _ => False) :
    codeAny (model P w) callerA (.call (.ref fa) ⟨[.ref a], []⟩) (fun r s' => r = .ok (.ret (.bool true)) ∧ OldK s₁.heap s'.heap ∧ s'.os = s₁.os ∧ AllBare s'.gens) s₁ := by
  have rv := vals_ints hi
  have lenV := hi.length
  have core : ∀ H : Hp, Only H → SqL K H a (ns.map V.int) → HOk P w H s₁.heap → (∀ b, H b ≠ none → b = a) → (H a ≠ none → K.lookup a = none) →
      codeAny (model P w) callerA (.call (.ref fa) ⟨[.ref a], []⟩) (fun r s' => r = .ok (.ret (.bool true)) ∧ OldK s₁.heap s'.heap ∧ s'.os = s₁.os ∧ AllBare s'.gens) s₁ := by
    intro H hO hS hok hA hK
    have base_of : ∀ {b : Addr} {o : Obj}, s₁.heap.get? b = some o → H b = none → (hidT s₁.heap H).get? b = some o := fun e n => hidT_get e n
    have noA : ∀ {b : Addr} {o : Obj} {es : Array DictEntry} {ep : Nat}, s₁.heap.get? b = some o → o.data = .dict es ep → H b = none := fun {b o es ep} e d => by
      cases q : H b with
      | none => rfl
      | some u =>
        have e' : b = a := hA b (by rw [q]; simp)
        subst e'
        rw [ha] at e; cases e
        have d' : Data.seq vs.toArray _ = Data.dict es ep := d
        cases d'
    have nsK : ∀ {b : Addr} {m : Str → Option Value}, s₁.heap.Ns b m → (hidT s₁.heap H).Ns b m := fun {b m} ⟨o, es, ep, e, d, r⟩ => ⟨o, es, ep, base_of e (noA e d), d, r⟩
    have hKb : K.In (hidT s₁.heap H) := fun b o e => base_of (KX b o e) (by
      cases q : H b with
      | none => rfl
      | some u =>
        have e' : b = a := hA b (by rw [q]; simp)
        subst e'
        rw [hK (by rw [q]; simp)] at e; cases e)
    have hM : Mod K mg (hidT s₁.heap H) := ⟨hKb, nsK hns, ⟨mb, nsK hb, hbb⟩, let ⟨mc, h1, h2⟩ := hlim; ⟨mc, nsK h1, h2⟩⟩
    have e0 : Env0 P w K mg (hidT s₁.heap H) callerA [] s₁ H := ⟨rfl, hM, fun b o e => of_hidT e, Nat.le_of_eq (hidT_size _ _), trivial, fun b hb => absurd (show b ∈ ([] : List Addr) from hb) (by simp), hok, .of_eq hg⟩
    refine codeAny_mono ((F _ hKb (nsK hns)).run callerA [] s₁ H ⟨[.ref a], []⟩ [.ref a] [.ref a] _ _ rfl hr e0 (hbind s₁ (.ref a)) (.cons rfl .nil) (hsp H hO hS)) fun r s' h => ?_
    cases r with
    | error e => exact h.elim
    | ok fl =>
      cases fl with
      | next => exact False.elim h
      | brk => exact False.elim h
      | cont => exact False.elim h
      | ret u =>
        obtain ⟨v, H', os, bare, un, hok', r', q⟩ := h
        have q' : v = .bl true := q
        subst q'
        obtain rfl : u = Value.bool true := r'
        refine ⟨rfl, OldK.of_keep fun b o e => ?_, os, bare⟩
        cases q : H b with
        | none => exact un.keep b o e q (by intro z; exact absurd (show b ∈ ([] : List Addr) from z) (by simp)) (by simp)
        | some u =>
          rcases hO b with z | ⟨ob, xs, z⟩
          · rw [q] at z; cases z
          · have z2 := un.frzs b ob _ z
            obtain ⟨e1, _⟩ := hok b _ z
            obtain ⟨e2, _⟩ := hok' b _ z2
            rw [e] at e1; cases e1
            exact e2
  cases hk : K.lookup a with
  | some o =>
    have e := KX a o hk
    rw [ha] at e
    cases e
    refine core (fun _ => none) (fun _ => .inl rfl) (.inr ⟨_, vs.toArray, _, hk, rfl, rfl, rfl, by rw [List.size_toArray, lenV]; exact hl, by simpa using rv⟩) (fun b u z => by have z' : (none : Option HO) = some u := z; cases z') (fun b z => absurd rfl z) fun z => absurd rfl z
  | none =>
    refine core (fun b => if b = a then some (.frz { cls := .type "list", data := .seq vs.toArray } (.lst (ns.map V.int))) else none) (fun b => ?_) (.inl (.inr ⟨{ cls := .type "list", data := .seq vs.toArray }, if_pos rfl⟩)) (fun b u z => ?_) (fun b z => ?_) fun _ => hk
    · by_cases hb : b = a
      · exact .inr ⟨_, _, if_pos hb⟩
      · exact .inl (if_neg hb)
    · by_cases hb : b = a
      · have z' := (if_pos hb).symm.trans z
        cases z'
        subst hb
        exact ⟨ha, by rw [List.length_map]; exact hl, vs, _, rv, ha⟩
      · have z' := (if_neg hb).symm.trans z
        cases z'
    · by_cases hb : b = a
      · exact hb
      · exact absurd (if_neg hb) z
theorem walk_ofD {l : PySem.W.OpenLaw} {n k : Nat} {q : Program} {loose : List Str} {XP : (Str → Option Value) → Heap → Prop} {YP : World → Heap → Prop} {d : DefRec} {K : Params → PySem.W.Frag} {sp : World → Sp} {x : Str}
    (hn : l.most = some n) (hn2 : n ≤ sizeLine) (hdf : d.params.defaults = []) (hr : Room k callerA)
    (hY : ∀ (w : World) (h : Heap), YP w h → (K w.params).In h)
    (F : ∀ (w : World) (mg : Str → Option Value) (fa : Addr) (h : Heap), (K w.params).In h → h.Ns mainGlobals mg → mg d.name = some (.ref fa) →
      ∃ fd : FuncData, (∀ (s : Shared) (u : Value), BindsTo s fd ⟨[u], []⟩ [(x, u)]) ∧
        ∀ base : Heap, (K w.params).In base → base.Ns mainGlobals mg → FnD l.prog w (K w.params) mg base k fa fd [x] (sp w))
    (hsp : ∀ (w : World) (H : Hp) (a : Addr) (ns : List Int), ns.length ≤ n → Only H → SqL (K w.params) H a (ns.map V.int) → sp w [.ref a] H (fun v _ => v = .bl true) fun _ _ _ => False) :
    PySem.W.WalkO q loose XP YP l.row.toRowW d [] (fun f vs => PySem.call f vs) := by
  refine Att.attach_call hn hdf fun w s₀ s₁ mg mb fa o pm cd doc a vs ns G Y ho hd hcd hmg hobj hints hlen hg => ?_
  have KX := hY w _ Y
  obtain ⟨fd, hb, hF⟩ := F w mg fa _ KX G.T.g hmg
  exact law_callD KX G.T.g G.T.b G.T.builtins G.T.nolimit hg hobj hints (Nat.le_trans hlen hn2) hr hF hb (fun H hO hS => hsp w H a ns hlen hO hS)
/-- try: .. except X: ..; where the body raises nothing -/
theorem ps_try_q {X : Cx} {x : Str} {c : Value} {body suite : List Stmt} {b₀ : Stmt} {np pos pos' : Pos} {t : TS} (hc : Names X x c) (hb : ∀ (pn : List (Addr × Obj)) (xe : Value → Shared → Prop), PSs (X.tr pn xe) body t) (hs : X.stack = X.env :: X.outer := by rfl) (hf : X.env.frame = some X.env.locals := by rfl) :
    PS X (.Try body [.ExceptHandler (some (.Name x np)) none (b₀ :: suite) pos'] [] [] pos) t :=
  ps_try_only (tb := fun _ => t) (ts := fun _ _ _ => tNever) (Wout := fun _ _ _ _ => False) hs hf hc (fun _ _ z => by
    obtain ⟨_, _, _, _, _, _, _, _, _, _, _, _, _, _, _, _, z⟩ := z
    exact z.elim) (fun W pn xe _ _ => hb pn xe) fun a oe cls d pn _ _ => pss_never
theorem ps_try_qn {X : Cx} {i : Nat} {x n : Str} {c : Value} {body suite : List Stmt} {b₀ : Stmt} {np pos pos' : Pos} {t : TS} (hN : X.N.Nodup) (hi : X.N[i]? = some n) (hc : Names X x c) (hb : ∀ (pn : List (Addr × Obj)) (xe : Value → Shared → Prop), PSs (X.tr pn xe) body t) (hln : X.env.kindOf n = some .local := by rfl) (hs : X.stack = X.env :: X.outer := by rfl) (hf : X.env.frame = some X.env.locals := by rfl) :
    PS X (.Try body [.ExceptHandler (some (.Name x np)) (some n) (b₀ :: suite) pos'] [] [] pos) t :=
  ps_try_as (i := i) (tb := fun _ => t) (ts := fun _ _ _ => tNever) (Wout := fun _ _ _ _ => False) hs hf hN hi hln hc (fun _ _ z => by
    obtain ⟨_, _, _, _, _, _, _, _, _, _, _, _, _, _, _, _, z⟩ := z
    exact z.elim) (fun W pn xe _ _ => hb pn xe) fun a oe cls d pn _ _ => pss_never
end L2
namespace DL
open PySem L2
open PyProof.Rows (envOfC)
section
variable {P : Program} {w : World} {K : PySem.W.Frag} {mg : Str → Option Value} {base : Heap} {x qual : Str} {st : Stmt} {f : Addr} {fd : FuncData} {N ps : List Str} {k : Nat} {ca : Nat → Addr} {body : M Fl}
theorem ok_fnP (F : Fun K x qual st f fd) (S : FnScope N ps (defScope st)) (hl : ps.length ≤ N.length)
    (h : ∀ (cdv : Value) (A : Around) (outer : List Env) (s : Shared) (H : Hp) (E : XK), Room k (A.deeper (envOfC qual (defScope st) s.heap.objs.size f cdv)) → ∃ t, PSs (cxOf CX0 P w K mg base N qual (defScope st) f cdv A outer s H E).nox (defBody st) t ∧ SndS ⟨K, ca⟩ W0 [] t body) :
    FnOk P w K mg base CX0 (k + 1) f fd ps (spP ⟨K, ca⟩ ps.length (fnP ps.length N.length body)) :=
  F.ok S (fun vs H Q E h => spP_len h) fun cdv A outer s H vs Q E hr hs => by
    obtain ⟨t, h1, h2⟩ := h cdv A outer s H E hr
    exact ⟨t, h1, h2.runP hl hs⟩
theorem ok_fnI (F : Fun K x qual st f fd) (S : FnScope N ps (defScope st)) (hl : ps.length ≤ N.length)
    (h : ∀ (cdv : Value) (A : Around) (outer : List Env) (s : Shared) (H : Hp) (E : XK), Room k (A.deeper (envOfC qual (defScope st) s.heap.objs.size f cdv)) → ∃ t, PSs (cxOf CX0 P w K mg base N qual (defScope st) f cdv A outer s H E).nox (defBody st) t ∧ SndS ⟨K, ca⟩ W0 [0] t body) :
    FnOk P w K mg base CX0 (k + 1) f fd ps (spI ⟨K, ca⟩ ps.length (fnI ps.length N.length body)) :=
  F.ok S (fun vs H Q E h => spI_len h) fun cdv A outer s H vs Q E hr hs => by
    obtain ⟨t, h1, h2⟩ := h cdv A outer s H E hr
    exact ⟨t, h1, h2.runI hl hs⟩
theorem okD_fnP (F : Fun K x qual st f fd) (S : FnScope N ps (defScope st)) (hl : ps.length ≤ N.length)
    (h : ∀ (cdv : Value) (A : Around) (outer : List Env) (s : Shared) (H : Hp) (E : XK), A.guards = some [] → Room k (A.deeper (envOfC qual (defScope st) s.heap.objs.size f cdv)) → ∃ t, PSs (cxOf CX0 P w K mg base N qual (defScope st) f cdv A outer s H E).nox (defBody st) t ∧ SndS ⟨K, ca⟩ W0 [] t body) :
    FnD P w K mg base (k + 1) f fd ps (spP ⟨K, ca⟩ ps.length (fnP ps.length N.length body)) :=
  F.okD S (fun vs H Q E h => spP_len h) fun cdv A outer s H vs Q E hg hr hs => by
    obtain ⟨t, h1, h2⟩ := h cdv A outer s H E hg hr
    exact ⟨t, h1, h2.runP hl hs⟩
theorem okD_fnI (F : Fun K x qual st f fd) (S : FnScope N ps (defScope st)) (hl : ps.length ≤ N.length)
    (h : ∀ (cdv : Value) (A : Around) (outer : List Env) (s : Shared) (H : Hp) (E : XK), A.guards = some [] → Room k (A.deeper (envOfC qual (defScope st) s.heap.objs.size f cdv)) → ∃ t, PSs (cxOf CX0 P w K mg base N qual (defScope st) f cdv A outer s H E).nox (defBody st) t ∧ SndS ⟨K, ca⟩ W0 [0] t body) :
    FnD P w K mg base (k + 1) f fd ps (spI ⟨K, ca⟩ ps.length (fnI ps.length N.length body)) :=
  F.okD S (fun vs H Q E h => spI_len h) fun cdv A outer s H vs Q E hg hr hs => by
    obtain ⟨t, h1, h2⟩ := h cdv A outer s H E hg hr
    exact ⟨t, h1, h2.runI hl hs⟩
end
section
variable {G : Tb} {W : WX} {fx : List Nat} {ta tb tc : TE} {fa fb fc : M D}
/-! fields -/
theorem RDf.look {B : Hp} {f : Str} : ∀ {ds : List (Str × D)} {vs : List (Str × V)} {d : D}, RDf G B ds vs → ds.lookup f = some d → ∃ v, vs.lookup f = some v ∧ RD G B d v
  | [], _, _, _, e => by cases e
  | (k, d) :: ds, _, d', ⟨v, q, h1, h2, h3⟩, e => by
    rw [h1]
    rw [List.lookup_cons] at e ⊢
    cases hk : f == k with
    | true => rw [hk] at e; cases e; exact ⟨v, rfl, h2⟩
    | false => rw [hk] at e; exact RDf.look h3 e
def putFA (f : Str) (v : D) : List (Str × D) → List (Str × D)
  | [] => [(f, v)]
  | (g, x) :: r => if g = f then (g, v) :: r else (g, x) :: putFA f v r
theorem RDf.put {B : Hp} {f : Str} {d' : D} {v' : V} (h' : RD G B d' v') : ∀ {ds : List (Str × D)} {vs : List (Str × V)}, RDf G B ds vs → RDf G B (putFA f d' ds) (putF f v' vs)
  | [], _, h => by rw [show _ = [] from h]; exact ⟨_, _, rfl, h', rfl⟩
  | (k, d) :: ds, _, ⟨v, q, h1, h2, h3⟩ => by
    rw [h1]
    unfold putFA putF
    by_cases e : k = f
    · rw [if_pos e, if_pos e]; exact ⟨_, _, rfl, h', h3⟩
    · rw [if_neg e, if_neg e]; exact ⟨_, _, rfl, h2, RDf.put h' h3⟩
theorem RDf.len {B : Hp} : ∀ {ds : List (Str × D)} {vs : List (Str × V)}, RDf G B ds vs → vs.length = ds.length
  | [], _, h => by rw [show _ = [] from h]; rfl
  | (k, d) :: ds, _, ⟨v, r, h1, _, h3⟩ => by rw [h1, List.length_cons, List.length_cons, RDf.len h3]
def fldD (C : Nat) (f : Str) : D → Option D
  | .obj c fs => if c = C then fs.lookup f else none
  | _ => none
def rFld (K : PySem.W.Frag) (f : Str) : V → Hp → VK → Prop := fun x H1 Q => ∃ a C dx fs v, x = .ref a ∧ H1 a = some (.ins C dx fs) ∧ Cls K C ∧ NoAttr K C f ∧ fs.lookup f = some v ∧ Q v H1
theorem unE_fld {C : Nat} {f : Str} (hc : Cls G.K (G.ca C)) (hn : NoAttr G.K (G.ca C) f) : UnE G (rFld G.K f) (fldD C f) := by
  intro B H x v d ex rx e Q q
  unfold fldD at e
  split at e
  · split at e
    · rename_i c fs hcc
      subst hcc
      obtain ⟨a, dx, ws, rfl, h1, h2⟩ := rx
      obtain ⟨w, h3, h4⟩ := h2.look e
      exact ⟨a, _, dx, ws, w, rfl, h1, hc, hn, h3, q _ B H (.refl ex) h4⟩
    · cases e
  · cases e
theorem snd_fld {C : Nat} {f : Str} (hc : Cls G.K (G.ca C)) (hn : NoAttr G.K (G.ca C) f) (ha : Snd G W (RR G) ta fa) : Snd G W (RE G) (tFld G.K ta f) (eUn (fldD C f) fa) := snd_un (ru := rFld G.K f) (unE_fld hc hn) ha
def setFD (C : Nat) (f : Str) (d : D) : D → Option (Unit × D)
  | .obj c fs => if c = C ∧ fs.length < 1000 then some ((), .obj c (putFA f d fs)) else none
  | _ => none
def sSetF (C i : Nat) (f : Str) (fe : M D) : M Fl := bnd fe fun d => bnd (bnd (ownIs (isOb C) i) fun _ => modOwn i (setFD C f d)) fun _ => sNx
theorem at_setF {C : Nat} {f : Str} {s : Sl} {σ : St} {B H : Hp} {i : Nat} {d : D} {v : V} (hc : Cls G.K (G.ca C)) (hn : NoAttr G.K (G.ca C) f) (rep : Rep G s σ B H) (hd : RD G B d v) :
    At G W (fun _ _ _ _ (_ : Unit) => True) (bnd (ownIs (isOb C) i) fun _ => modOwn i (setFD C f d)) s σ B H (fun Q => tVar i σ H fun x H2 => ∃ a C dx fs, x = .ref a ∧ H2 a = some (.ins C dx fs) ∧ Cls G.K C ∧ NoAttr G.K C f ∧ fs.length < 1000 ∧ Q () (upd H2 a (.ins C dx (putF f v fs)))) :=
  at_recv (R := fun _ _ _ _ (_ : Unit) => True) (t := fun x Q => ∃ a C dx fs, x = .ref a ∧ H a = some (.ins C dx fs) ∧ Cls G.K C ∧ NoAttr G.K C f ∧ fs.length < 1000 ∧ Q () (upd H a (.ins C dx (putF f v fs)))) rep fun a x e ea hO hp => by
    refine at_mod rep ea fun x y x' ex hb hO1 eg Q ok => ?_
    unfold setFD at eg
    split at eg
    · split at eg
      · rename_i c fs hz
        obtain ⟨rfl, hz⟩ := hz
        cases eg
        obtain ⟨dx, ws, w1, w2⟩ := hO1
        exact ⟨a, _, dx, ws, rfl, w1, hc, hn, by rw [w2.len]; exact hz, ok () _ ⟨dx, _, upd_same, w2.put hd⟩ trivial⟩
      · cases eg
    · cases eg
theorem sndS_setF {C i : Nat} {f : Str} {te : TE} {fe : M D} (hc : Cls G.K (G.ca C)) (hn : NoAttr G.K (G.ca C) f) (he : Snd G W (RE G) te fe) : SndS G W fx (sFld G.K (tVar i) te f) (sSetF C i f fe) :=
  sndS_of (u := fun b Dd σ H => tVar i σ H fun x H2 => ∃ a C dx fs, x = .ref a ∧ H2 a = some (.ins C dx fs) ∧ Cls G.K C ∧ NoAttr G.K C f ∧ fs.length < 1000 ∧ Dd.nx σ (upd H2 a (.ins C dx (putF f b fs)))) he fun d s σ B H b H0 rep r _ _ Dd ok exc nn => by
    refine at_setF (i := i) hc hn rep r (fun _ H3 => Dd.nx σ H3) (fun a s1 _ B1 H1 e1 g1 r1 _ => ?_) (fun x s1 dd B1 H1 e1 g1 r1 q => exc x s1 σ dd B1 H1 (by simp only [bnd, sNx, ret] at e1 ⊢; rw [e1]) g1.st r1 q) fun e => nn (by simp only [bnd] at e ⊢; rw [e])
    exact ok .nx s1 σ B1 H1 (by simp only [bnd, sNx, ret] at e1 ⊢; rw [e1]) g1.st r1
/-! a tuple of the module's own -/
theorem rd_ktup {ca : Nat → Addr} {K : PySem.W.Frag} {a : Addr} {o : Obj} {its : Array Value} {n : Nat} {xs : List Str} (l : K.lookup a = some o) (hc : o.cls = .type "tuple") (hd : o.data = .seq its n) (hz : its.size ≤ sizeLine) (hv : Vals (xs.map V.str) its.toList) (B : Hp) : RD ⟨K, ca⟩ B (.tup (xs.map .str)) (.ref a) :=
  ⟨a, xs.map V.str, rfl, .inr ⟨o, its, n, l, hc, hd, hz, hv⟩, RDs.of_strs xs⟩

end
end DL

/-! ## DMa -/
namespace L2
open PySem PySem.Spec PyProof.Rows
theorem Room.u65 {k : Nat} {A : Around} (r : Room k A) : A.units + 65 < cLine := by have := r.un; omega
theorem Room.u64 {k : Nat} {A : Around} (r : Room k A) : A.units + 64 < cLine := by have := r.un; omega
theorem Room.u60 {k : Nat} {A : Around} (r : Room k A) : A.units + 60 < cLine := by have := r.un; omega
theorem Room.u1 {k : Nat} {A : Around} (r : Room k A) : A.units + 1 < cLine := by have := r.un; omega
theorem cr_lenU {X : Cx} : CallR X (.builtin "len") (DL.rLenU X.K) := (call_len_seq.or call_len_str).or call_lenD
/-- a def that may be called by the name x: its promise, its arguments -/
structure Cal (P : Program) (w : World) (K : PySem.W.Frag) (mg : Str → Option Value) (base : Heap) (k : Nat) (x : Str) (dvs : List V) (sp : Sp) : Prop where
  ex : ∃ f fd ps ds, FnOk P w K mg base CX0 k f fd ps sp ∧ mg x = some (.ref f) ∧ PySem.W.keepIn K (.ref f) = true ∧ Binds K fd ps ds ∧ Vals dvs ds
structure CalD (P : Program) (w : World) (K : PySem.W.Frag) (mg : Str → Option Value) (base : Heap) (k : Nat) (x : Str) (sp : Sp) : Prop where
  ex : ∃ f fd ps, FnD P w K mg base k f fd ps sp ∧ mg x = some (.ref f) ∧ PySem.W.keepIn K (.ref f) = true ∧ Binds K fd ps []
/-- a class that may be made by the name x -/
structure CalM (P : Program) (w : World) (K : PySem.W.Frag) (mg : Str → Option Value) (base : Heap) (k : Nat) (x : Str) (C : Addr) (sp : Sp) : Prop where
  ex : ∃ f fd ps, FnOk P w K mg base CX0 k f fd ps sp ∧ mg x = some (.ref C) ∧ Mk K C f ∧ Binds K fd ps []
section
variable {X : Cx} {k : Nat} {sp : Sp} {dvs : List V} {x : Str} {p pos : Pos} {e : Expr} {es : List Expr} {t : TA} {C : Addr}
theorem pe_cal (h : Cal X.prog X.w X.K X.mg X.base k x dvs sp) (hr : Room k X.A) (ha : PA X (e :: es) t) (hg : Gl X x := by rfl) (hdb : (x == ("__debug__" : Str)) = false := by decide) (he : starEach (e :: es) X.env = (false, eval e X.env) :: starEach es X.env := by rfl) (hpl : (backTo pos (starEach es X.env)).any (·.1) = false := by rfl) :
    PE X (.Call (.Name x p) (e :: es) [] pos) (tCall sp dvs E0 t) := by
  obtain ⟨f, fd, ps, ds, F, hm, kp, b, d⟩ := h.ex
  exact pe_call F hr hg hm kp b d pass0 ha hdb he hpl
theorem pe_cal0 (h : Cal X.prog X.w X.K X.mg X.base k x dvs sp) (hr : Room k X.A) (hg : Gl X x := by rfl) (hdb : (x == ("__debug__" : Str)) = false := by decide) :
    PE X (.Call (.Name x p) [] [] pos) (tCall sp dvs E0 tNil) := by
  obtain ⟨f, fd, ps, ds, F, hm, kp, b, d⟩ := h.ex
  exact pe_call0 F hr hg hm kp b d pass0 hdb
theorem pe_calD (h : CalD X.prog X.w X.K X.mg X.base k x sp) (hgd : X.A.guards = some []) (hr : Room k X.A) (ha : PA X (e :: es) t) (hg : Gl X x := by rfl) (hdb : (x == ("__debug__" : Str)) = false := by decide) (he : starEach (e :: es) X.env = (false, eval e X.env) :: starEach es X.env := by rfl) (hpl : (backTo pos (starEach es X.env)).any (·.1) = false := by rfl) :
    PE X (.Call (.Name x p) (e :: es) [] pos) (tCall sp [] E0 t) := by
  obtain ⟨f, fd, ps, F, hm, kp, b⟩ := h.ex
  exact pe_callD F hgd hr hg hm kp b .nil ha hdb he hpl
theorem pe_calM (h : CalM X.prog X.w X.K X.mg X.base k x C sp) (hr : Room (k + 1) X.A) (ha : PA X (e :: es) t) (hg : Gl X x := by rfl) (hdb : (x == ("__debug__" : Str)) = false := by decide) (he : starEach (e :: es) X.env = (false, eval e X.env) :: starEach es X.env := by rfl) (hpl : (backTo pos (starEach es X.env)).any (·.1) = false := by rfl) :
    PE X (.Call (.Name x p) (e :: es) [] pos) (tMake C sp [] E0 t) := by
  obtain ⟨f, fd, ps, F, hm, M, b⟩ := h.ex
  exact pe_make M F hr hg hm b .nil pass0 ha hdb he hpl
end
theorem ex_mk {p q : TS → Prop} {t : TS} (sn : q t) (pe : p t) : ∃ t, p t ∧ q t := ⟨t, pe, sn⟩
theorem ex_mkF {p : TS → TE → Prop} {q : TS → Prop} {r : TE → Prop} {t : TS} {te : TE} (sn : q t) (sl : r te) (pe : p t te) : ∃ t te, p t te ∧ q t ∧ r te := ⟨t, te, pe, sn, sl⟩
theorem pss_assoc {X : Cx} {l : List Stmt} {a b c : TS} (h : PSs X l (tSeq a (tSeq b c))) : PSs X l (tSeq (tSeq a b) c) := h
/-- a def of the text by the name x (its own name q) -/
structure Has (K : PySem.W.Frag) (mg : Str → Option Value) (x q : Str) (st : Stmt) (ps : List Str) (dvs : List V) : Prop where
  ex : ∃ f fd ds, Fun K q q st f fd ∧ mg x = some (.ref f) ∧ Binds K fd ps ds ∧ Vals dvs ds
end L2
namespace DL
open PySem L2
open PyProof.Rows (envOfC)
section
variable {P : Program} {w : World} {K : PySem.W.Frag} {mg : Str → Option Value} {base : Heap} {x q : Str} {st : Stmt} {N ps : List Str} {k : Nat} {ca : Nat → Addr} {body : M Fl} {dvs : List V}
theorem cal_fnP {np n : Nat} {g : PF} (h1 : ps.length = np) (h2 : N.length = n) (hg : g = fnP np n body) (F : Has K mg x q st ps dvs) (S : FnScope N ps (defScope st)) (hl : ps.length ≤ N.length)
    (h : ∀ (f : Addr) (cdv : Value) (A : Around) (outer : List Env) (s : Shared) (H : Hp) (E : XK), Room k (A.deeper (envOfC q (defScope st) s.heap.objs.size f cdv)) → ∃ t, PSs (cxOf CX0 P w K mg base N q (defScope st) f cdv A outer s H E).nox (defBody st) t ∧ SndS ⟨K, ca⟩ W0 [] t body) :
    Cal P w K mg base (k + 1) x dvs (spP ⟨K, ca⟩ np g) := by
  subst h1 h2 hg
  obtain ⟨f, fd, ds, F, hm, b, v⟩ := F.ex
  exact ⟨f, fd, ps, ds, ok_fnP F S hl (h f), hm, F.kp, b, v⟩
theorem cal_fnI {np n : Nat} {g : IOF} (h1 : ps.length = np) (h2 : N.length = n) (hg : g = fnI np n body) (F : Has K mg x q st ps dvs) (S : FnScope N ps (defScope st)) (hl : ps.length ≤ N.length)
    (h : ∀ (f : Addr) (cdv : Value) (A : Around) (outer : List Env) (s : Shared) (H : Hp) (E : XK), Room k (A.deeper (envOfC q (defScope st) s.heap.objs.size f cdv)) → ∃ t, PSs (cxOf CX0 P w K mg base N q (defScope st) f cdv A outer s H E).nox (defBody st) t ∧ SndS ⟨K, ca⟩ W0 [0] t body) :
    Cal P w K mg base (k + 1) x dvs (spI ⟨K, ca⟩ np g) := by
  subst h1 h2 hg
  obtain ⟨f, fd, ds, F, hm, b, v⟩ := F.ex
  exact ⟨f, fd, ps, ds, ok_fnI F S hl (h f), hm, F.kp, b, v⟩
theorem cal_fnF {np n : Nat} {g : PF} {init : M Fl} {last : M D} (h1 : ps.length = np) (h2 : N.length = n) (hg : g = fnF np n init last) (F : Has K mg x q st ps dvs) (S : FnScope N ps (defScope st)) (hl : ps.length ≤ N.length) (hr : noRt init)
    (h : ∀ (f : Addr) (cdv : Value) (A : Around) (outer : List Env) (s : Shared) (H : Hp) (E : XK), Room k (A.deeper (envOfC q (defScope st) s.heap.objs.size f cdv)) → ∃ t te, PSs (cxOf CX0 P w K mg base N q (defScope st) f cdv A outer s H E).nox (defBody st) (tSeq t (tRet te)) ∧ SndS ⟨K, ca⟩ W0 [] t init ∧ Snd ⟨K, ca⟩ W0 (RF ⟨K, ca⟩) te last) :
    Cal P w K mg base (k + 1) x dvs (spF ⟨K, ca⟩ np g) := by
  subst h1 h2 hg
  obtain ⟨f, fd, ds, F, hm, b, v⟩ := F.ex
  refine ⟨f, fd, ps, ds, F.ok S (fun vs H Q E h => spF_len h) fun cdv A outer s H vs Q E hr' hs => ?_, hm, F.kp, b, v⟩
  obtain ⟨t, te, h1, h2, h3⟩ := h f cdv A outer s H E hr'
  exact ⟨_, h1, runF h2 h3 hr hl hs⟩
theorem calD_fnP {np n : Nat} {g : PF} (h1 : ps.length = np) (h2 : N.length = n) (hg : g = fnP np n body) (F : Has K mg x q st ps []) (S : FnScope N ps (defScope st)) (hl : ps.length ≤ N.length)
    (h : ∀ (f : Addr) (cdv : Value) (A : Around) (outer : List Env) (s : Shared) (H : Hp) (E : XK), A.guards = some [] → Room k (A.deeper (envOfC q (defScope st) s.heap.objs.size f cdv)) → ∃ t, PSs (cxOf CX0 P w K mg base N q (defScope st) f cdv A outer s H E).nox (defBody st) t ∧ SndS ⟨K, ca⟩ W0 [] t body) :
    CalD P w K mg base (k + 1) x (spP ⟨K, ca⟩ np g) := by
  subst h1 h2 hg
  obtain ⟨f, fd, ds, F, hm, b, v⟩ := F.ex
  cases v
  exact ⟨f, fd, ps, okD_fnP F S hl (h f), hm, F.kp, b⟩
theorem calD_fnI {np n : Nat} {g : IOF} (h1 : ps.length = np) (h2 : N.length = n) (hg : g = fnI np n body) (F : Has K mg x q st ps []) (S : FnScope N ps (defScope st)) (hl : ps.length ≤ N.length)
    (h : ∀ (f : Addr) (cdv : Value) (A : Around) (outer : List Env) (s : Shared) (H : Hp) (E : XK), A.guards = some [] → Room k (A.deeper (envOfC q (defScope st) s.heap.objs.size f cdv)) → ∃ t, PSs (cxOf CX0 P w K mg base N q (defScope st) f cdv A outer s H E).nox (defBody st) t ∧ SndS ⟨K, ca⟩ W0 [0] t body) :
    CalD P w K mg base (k + 1) x (spI ⟨K, ca⟩ np g) := by
  subst h1 h2 hg
  obtain ⟨f, fd, ds, F, hm, b, v⟩ := F.ex
  cases v
  exact ⟨f, fd, ps, okD_fnI F S hl (h f), hm, F.kp, b⟩
/-- an __init__: its class at C, made by the name x -/
theorem calM_fnI {np n : Nat} {g : IOF} {C : Addr} {q' : Str} {f : Addr} {fd : FuncData} (h1 : ps.length = np) (h2 : N.length = n) (hg : g = fnI np n body) (F : Fun K q q' st f fd) (hm : mg x = some (.ref C)) (M : Mk K C f) (b : Binds K fd ps []) (S : FnScope N ps (defScope st)) (hl : ps.length ≤ N.length)
    (h : ∀ (f : Addr) (cdv : Value) (A : Around) (outer : List Env) (s : Shared) (H : Hp) (E : XK), Room k (A.deeper (envOfC q' (defScope st) s.heap.objs.size f cdv)) → ∃ t, PSs (cxOf CX0 P w K mg base N q' (defScope st) f cdv A outer s H E).nox (defBody st) t ∧ SndS ⟨K, ca⟩ W0 [0] t body) :
    CalM P w K mg base (k + 1) x C (spI ⟨K, ca⟩ np g) := by
  subst h1 h2 hg
  exact ⟨f, fd, ps, ok_fnI F S hl (h f), hm, M, b⟩
end
/-! what falls through -/
theorem noRt_seq {f g : M Fl} (hf : noRt f) (hg : noRt g) : noRt (sSeq f g) := fun s d s' e => by
  obtain ⟨fl, s1, e1, e2⟩ := bnd_ok e
  cases fl with
  | nx => exact hg _ _ _ e2
  | rt d' => exact hf _ _ _ e1
  | bk => cases e2
  | ct => cases e2
theorem noRt_set {i : Nat} {sl : Slot} : noRt (setS i sl) := fun s d s' e => by
  unfold setS at e
  split at e <;> cases e
theorem noRt_asg {i : Nat} {f : M D} : noRt (sAsg i f) := fun s d s' e => by
  obtain ⟨a, s1, _, e2⟩ := bnd_ok e
  exact noRt_set _ _ _ e2
theorem noRt_asgO {i : Nat} {f : M D} : noRt (sAsgO i f) := fun s d s' e => by
  obtain ⟨a, s1, _, e2⟩ := bnd_ok e
  exact noRt_set _ _ _ e2
theorem noRt_drop {α : Type} {f : M α} : noRt (sDrop f) := fun s d s' e => by
  obtain ⟨a, s1, _, e2⟩ := bnd_ok e
  cases e2
theorem noRt_if {c : M Bool} {f g : M Fl} (hf : noRt f) (hg : noRt g) : noRt (sIf c f g) := fun s d s' e => by
  obtain ⟨a, s1, _, e2⟩ := bnd_ok e
  cases a with
  | true => exact hf _ _ _ e2
  | false => exact hg _ _ _ e2
theorem noRt_nx : noRt sNx := fun s d s' e => by cases e
theorem noRt_forL {tg : D → M Fl} {fg : List Nat} {body : M Fl} (ht : ∀ d, noRt (tg d)) (hb : noRt body) : ∀ ds, noRt (forL tg fg body ds)
  | [] => noRt_nx
  | d :: ds => fun s d' s' e => by
    obtain ⟨fl, s1, e1, e2⟩ := bnd_ok (show bnd (sSeq (tg d) body) (forK (forL tg fg body ds) fg) s = _ from e)
    cases fl with
    | nx => exact noRt_forL ht hb ds _ _ _ e2
    | ct => exact noRt_forL ht hb ds _ _ _ e2
    | bk => cases e2
    | rt d2 => exact noRt_seq (ht d) hb _ _ _ e1
theorem noRt_for {fi : M (List D)} {tg : D → M Fl} {fg : List Nat} {body : M Fl} (ht : ∀ d, noRt (tg d)) (hb : noRt body) : noRt (sFor fi tg fg body) := fun s d s' e => by
  obtain ⟨ds, s1, _, e2⟩ := bnd_ok e
  exact noRt_forL ht hb ds _ _ _ e2
theorem noRt_tgN {i : Nat} : ∀ d, noRt (tgN i d) := fun d => noRt_set
/-! a, b = x, y where the pair is made and taken apart -/
section
variable {G : Tb} {W : WX} {fx : List Nat} {ta tb : TE} {fa fb : M D}
theorem Rep.asideN {s : Sl} {σ : St} {B H : Hp} {p : Addr} {o : HO} (r : Rep G s σ B H) (hp : H p = none) : Rep G s σ B (upd H p o) := r.newF hp
theorem sndS_parT {i j : Nat} {b1 b2 : Bool} (hi : i ∉ fx) (hj : j ∉ fx) (h1 : Snd G W (RX G b1) ta fa) (h2 : Snd G W (RX G b2) tb fb) : SndS G W fx (tAsg (tTup (tCons ta (tCons tb tNil))) (gTup G.K 2 (gCons (gName i) (gCons (gName j) gNil)))) (sPar i j b1 b2 fa fb) := fun s σ B H rep Dd ok exc nn => by
  refine h1 s σ B H rep _ (fun x s1 v B1 H1 e1 g1 r1 q1 => ?_) (fun x s1 dd B1 H1 e1 g1 r1 q1 => exc x s1 σ dd B1 H1 (by simp only [sPar, bnd, e1]) g1.st r1 q1) fun e => nn (by simp only [sPar, bnd, e])
  have ea : sPar i j b1 b2 fa fb s = bnd fb (fun y => setPar i j (parSlot b1 x) (parSlot b2 y)) s1 := by simp only [sPar, bnd, e1]
  refine h2 s1 σ B1 H1 r1 _ (fun y s2 w B2 H2 e2 g2 r2 q2 => ?_) (fun x s2 dd B2 H2 e2 g2 r2 q2 => exc x s2 σ dd B2 H2 (by rw [ea]; simp only [bnd, e2]) (g1.trans g2).st r2 q2) fun e => nn (by rw [ea]; simp only [bnd, e])
  have eb : sPar i j b1 b2 fa fb s = setPar i j (parSlot b1 x) (parSlot b2 y) s2 := by rw [ea]; simp only [bnd, e2]
  have g12 := g1.trans g2
  have l1 : Hld G H B2 H2 b1 x v := q1.hld.gr g2 fun p h => rep.there (g1.pat.own.1 h)
  have l2 : Hld G H B2 H2 b2 y w := by
    have z := q2.hld
    cases b2 with
    | false => exact z
    | true => obtain ⟨p, k1, k2, k3⟩ := z; exact ⟨p, k1, g1.back k2, k3⟩
  refine ⟨by show 2 ≤ sizeLine; decide, fun p hp => ⟨p, [v, w], rfl, .of upd_same, rfl, v, [w], rfl, w, [], rfl, rfl, ?_⟩⟩
  have rN : Rep G s2 σ B2 (upd H2 p (.tup [v, w])) := r2.newF hp
  have gN : Gr s σ B H s2 B2 (upd H2 p (.tup [v, w])) := g12.trans (Gr.newF hp)
  have l1' : Hld G H B2 (upd H2 p (.tup [v, w])) b1 x v := l1.gr (Gr.newF (s := s2) (σ := σ) (B := B2) hp) fun q h => rep.there (g12.pat.own.1 h)
  have l2' : Hld G H B2 (upd H2 p (.tup [v, w])) b2 y w := l2.gr (Gr.newF (s := s2) (σ := σ) (B := B2) hp) fun q h => rep.there (g12.pat.own.1 h)
  by_cases hil : i < s2.length
  · have ec : sPar i j b1 b2 fa fb s = setS j (parSlot b2 y) (s2.set i (parSlot b1 x)) := by rw [eb]; simp only [setPar, sSeq, bnd, setS, hil, if_true, seqK]
    obtain ⟨hjl, ed⟩ := setS_ok (fun z => nn (ec.trans z))
    have r3 := l1'.rep rN hil fun p e1 e2 h => rep.there (g12.pat.own.1 h) (by subst e2; exact l1.fresh e1)
    have r4 := l2'.rep r3 hjl fun p e1 e2 ⟨k, h⟩ => by
      subst e2
      rcases owns_set h with ⟨_, ⟨d', e⟩, e2⟩ | ⟨_, h⟩
      · cases b1 with
        | false => cases e
        | true =>
          subst e2
          subst e1
          obtain ⟨p', k1, _, _, k4⟩ := q1.hld
          cases k1
          obtain ⟨p'', z1, z2, _⟩ := q2.hld
          cases z1
          exact k4.there z2
      · exact rep.there (g12.pat.own.1 ⟨k, h⟩) (l2.fresh e1)
    exact ok .nx _ _ B2 _ (ec.trans ed) (((gN.st).put hi l1').put hj l2') r4
  · exact absurd (by rw [eb]; simp only [setPar, sSeq, bnd, setS, hil, if_false]) nn
theorem snd_yes : Snd G W RT tYes (ret true) := fun s σ B H rep => At.val rep rfl rfl
theorem opE_sub : OpE G (rI0 fun i j => .int (i - j)) subD := opE_i2 fun _ _ _ => rfl
theorem opE_band : OpE G (rI0 fun i j => .int (Builtin.bitAnd i j)) bandD := opE_i2 fun _ _ _ => rfl
theorem opE_bor : OpE G (rI0 fun i j => .int (Builtin.bitOr i j)) borD := opE_i2 fun _ _ _ => rfl
theorem opE_bxor : OpE G (rI0 fun i j => .int (Builtin.bitXor i j)) bxorD := opE_i2 fun _ _ _ => rfl
theorem opE_lt : OpE G (rI0 fun i j => .bl (decide (i < j))) ltD := opE_i2 fun _ _ _ => rfl
theorem opE_le : OpE G (rI0 fun i j => .bl (decide (i ≤ j))) leD := opE_i2 fun _ _ _ => rfl
theorem opE_gt : OpE G (rI0 fun i j => .bl (decide (i > j))) gtD := opE_i2 fun _ _ _ => rfl
theorem opE_ge : OpE G (rI0 fun i j => .bl (decide (i ≥ j))) geD := opE_i2 fun _ _ _ => rfl
def rng3D : D → D → D → Option (List D)
  | .int i, .int j, .int c => if c ≠ 0 ∧ c.natAbs < 1073741824 ∧ Builtin.Range.small i j c = true ∧ Builtin.Range.rangeSize i j c = (((Builtin.Range.rangeSize i j c).toNat : Nat) : Int) then some (rng3L i c (Builtin.Range.rangeSize i j c).toNat) else none
  | _, _, _ => none
def it3 (g : D → D → D → Option (List D)) (fa fb fc : M D) : M (List D) := bnd fa fun x => bnd fb fun y => bnd fc fun z => opt (g x y z)
variable {tc : TE} {fc : M D}
theorem snd_rng3 (ha : Snd G W (RE G) ta fa) (hb : Snd G W (RE G) tb fb) (hc : Snd G W (RE G) tc fc) : Snd G W (RI G) (iRng3 (tCons ta (tCons tb (tCons tc tNil)))) (it3 rng3D fa fb fc) := fun s σ B H rep =>
  At.seq (R2 := RI G) (t2 := fun (x : V) H1 R => tb σ H1 fun y H2 => tc σ H2 fun z H3 => ∃ (i j c : Int) (n : Nat), [x, y, z] = [V.int i, .int j, .int c] ∧ RgC i j c n ∧ R (Itc i c n) H3) (ha s σ B H rep) fun d s1 v B1 H1 e1 g1 r1 (q1 : RD G B1 d v) =>
    At.seq (R2 := RI G) (t2 := fun (y : V) H2 R => tc σ H2 fun z H3 => ∃ (i j c : Int) (n : Nat), [v, y, z] = [V.int i, .int j, .int c] ∧ RgC i j c n ∧ R (Itc i c n) H3) (hb s1 σ B1 H1 r1) fun d2 s2 u B2 H2 e2 g2 r2 (q2 : RD G B2 d2 u) =>
      At.seq (R2 := RI G) (t2 := fun (z : V) H3 R => ∃ (i j c : Int) (n : Nat), [v, u, z] = [V.int i, .int j, .int c] ∧ RgC i j c n ∧ R (Itc i c n) H3) (hc s2 σ B2 H2 r2) fun d3 s3 x B3 H3 e3 g3 r3 (q3 : RD G B3 d3 x) =>
        at_opt r3 fun ds e Q ok => by
          unfold rng3D at e
          split at e
          · split at e
            · rename_i i j c hz; cases e
              exact ⟨i, j, c, _, by rw [show v = _ from q1, show u = _ from q2, show x = _ from q3], ⟨hz.1, hz.2.1, hz.2.2.1, hz.2.2.2⟩, ok _ B3 H3 (.refl r3.ex) walk_r3⟩
            · cases e
          · cases e
theorem snd_int {n : Int} : Snd G W (RE G) (tC (.int n)) (eC (.int n)) := snd_C fun _ => rfl
theorem snd_str {n : Str} : Snd G W (RE G) (tC (.str n)) (eC (.str n)) := snd_C fun _ => rfl
theorem snd_bl {n : Bool} : Snd G W (RE G) (tC (.bl n)) (eC (.bl n)) := snd_C fun _ => rfl
theorem snd_non : Snd G W (RE G) (tC .non) (eC .non) := snd_C fun _ => rfl
theorem snd_call0 {ps : Nat} {g : PF} {tr : TA} {fr : M (List D)} (hn : ∀ ds d, g ds = .ok d → ds.length = ps) (ha : Snd G W (RA G) tr fr) : Snd G W (RE G) (tCall (spP G ps g) [] E0 tr) (eCall g [] fr) := snd_call (fun _ => rfl) hn ha
theorem snd_callF0 {ps : Nat} {g : PF} {tr : TA} {fr : M (List D)} (hn : ∀ ds d, g ds = .ok d → ds.length = ps) (ha : Snd G W (RA G) tr fr) : Snd G W (RF G) (tCall (spF G ps g) [] E0 tr) (eCall g [] fr) := snd_callF hn ha
theorem snd_callI0 {i ps : Nat} {g : IOF} {tr : TA} {fr : M (List D)} (hn : ∀ x ds d x', g x ds = .ok d x' → ds.length + 1 = ps) (ha : Snd G W (RA G) tr fr) : Snd G W (RE G) (tCall (spI G ps g) [] E0 (tCons (tVar i) tr)) (eCallI i g fr) := snd_callI hn ha
theorem snd_make0 {C ps : Nat} {g : IOF} {tr : TA} {fr : M (List D)} (hn : ∀ x ds d x', g x ds = .ok d x' → ds.length + 1 = ps) (ha : Snd G W (RA G) tr fr) : Snd G W (RF G) (tMake (G.ca C) (spI G ps g) [] E0 tr) (eMake C g [] fr) := snd_make (fun _ => rfl) hn ha
/-- how often a while goes round at most -/
@[irreducible] def fuel : Nat := 1000000
end
end DL

/-! ## DGa -/
/-! A generator that sleeps is left alone by code that runs well whatever the sleepers hold. -/
namespace Slp
open PySem
open Sem (wp)
def susp : GenState → Bool
  | .suspended .. => true
  | _ => false
/-- the same to look at, but it cannot be woken -/
def stf : GenState → GenState
  | .suspended _ l c p fs cl => .suspended (fun _ => .unsupported "") l c p fs cl
  | y => y
theorem stf_seen (y : GenState) : (stf y).seen = y.seen := by cases y <;> rfl
theorem stf_bare (y : GenState) : (stf y).bare = y.bare := by cases y <;> rfl
theorem no_runs0 {M : Model} {Γ : Ctx} {p : Pos} {w : String} {s s' : Shared} {e : End} : ¬ Runs M Γ p (.unsupported w) [] s e s' := fun h => by cases h
theorem no_runs {M : Model} {Γ : Ctx} {p : Pos} {w : String} {fs : List Frame} {s s' : Shared} {e : End} : ¬ Runs M Γ p (.unsupported w) fs s e s' := fun h => by
  cases h with
  | segRet h _ => exact no_runs0 h
  | segGen h _ => exact no_runs0 h
  | segSuspOut _ h => exact no_runs0 h
  | segSuspGen _ h _ _ => exact no_runs0 h
/-- i sleeps in the table T -/
def Fz (T : Array GenState) (i : Nat) : Prop := ∃ y : GenState, T[i]? = some y ∧ susp y = true
structure Sim (T : Array GenState) (s0 s : Shared) : Prop where
  eq : s = { s0 with gens := s.gens }
  size : s.gens.size = s0.gens.size
  fz : ∀ (i : Nat) (y : GenState), T[i]? = some y → susp y = true → s0.gens[i]? = some (stf y) ∧ s.gens[i]? = some y
  ot : ∀ i : Nat, ¬ Fz T i → s.gens[i]? = s0.gens[i]?
  good : ∀ (i : Nat) k l c p fs cl, ¬ Fz T i → s0.gens[i]? = some (.suspended k l c p fs cl) → splitAtGen fs = none
def goodE : End → Prop
  | .ret _ => True
  | .susp _ _ _ _ _ _ fs => splitAtGen fs = none
def goodG : GenState → Prop
  | .suspended _ _ _ _ fs _ => splitAtGen fs = none
  | _ => True
section
variable {T : Array GenState} {s0 s : Shared}
theorem Sim.heap (h : Sim T s0 s) : s.heap = s0.heap := by rw [h.eq]
theorem Sim.toks (h : Sim T s0 s) : s.toks = s0.toks := by rw [h.eq]
theorem Sim.os (h : Sim T s0 s) : s.os = s0.os := by rw [h.eq]
theorem Sim.drawn (h : Sim T s0 s) : s.drawn = s0.drawn := by rw [h.eq]
theorem Sim.with_ (h : Sim T s0 s) (hp : Heap) (d : Drawn) (tk : Nat) (os : OsState) : Sim T { s0 with heap := hp, drawn := d, toks := tk, os := os } { s with heap := hp, drawn := d, toks := tk, os := os } :=
  ⟨rfl, h.size, h.fz, h.ot, h.good⟩
theorem Sim.set (h : Sim T s0 s) {g : Nat} (hg : ¬ Fz T g) {y : GenState} (hy : goodG y) : Sim T (s0.setGen g y) (s.setGen g y) := by
  refine ⟨by rw [h.eq]; rfl, by simp [Shared.setGen, h.size], fun i z e1 e2 => ?_, fun i hi => ?_, fun i k l c p fs cl hi e => ?_⟩
  · have hne : g ≠ i := fun q => hg (q ▸ ⟨z, e1, e2⟩)
    simp only [Shared.setGen]
    rw [Array.getElem?_setIfInBounds_ne hne, Array.getElem?_setIfInBounds_ne hne]
    exact h.fz i z e1 e2
  · simp only [Shared.setGen]
    by_cases q : g = i
    · subst q
      rw [Array.getElem?_setIfInBounds_self, Array.getElem?_setIfInBounds_self, h.size]
    · rw [Array.getElem?_setIfInBounds_ne q, Array.getElem?_setIfInBounds_ne q]
      exact h.ot i hi
  · simp only [Shared.setGen] at e
    by_cases q : g = i
    · subst q
      rw [Array.getElem?_setIfInBounds_self] at e
      split at e
      · have := Option.some.inj e
        rw [this] at hy
        exact hy
      · cases e
    · rw [Array.getElem?_setIfInBounds_ne q] at e
      exact h.good i k l c p fs cl hi e
theorem Sim.push (h : Sim T s0 s) (c : Code) : Sim T { s0 with gens := s0.gens.push (.fresh c) } { s with gens := s.gens.push (.fresh c) } := by
  have lt : ∀ i, Fz T i → i < s0.gens.size := fun i ⟨y, e1, e2⟩ => by
    have := (h.fz i y e1 e2).1
    exact (Array.getElem?_eq_some_iff.mp this).1
  refine ⟨by show _ = _; rw [h.eq], by simp [h.size], fun i z e1 e2 => ?_, fun i hi => ?_, fun i k l c' p fs cl hi e => ?_⟩
  · have hl := lt i ⟨z, e1, e2⟩
    have a := h.fz i z e1 e2
    show (s0.gens.push _)[i]? = _ ∧ (s.gens.push _)[i]? = _
    rw [Array.getElem?_push, Array.getElem?_push, if_neg (Nat.ne_of_lt hl), if_neg (by rw [h.size]; exact Nat.ne_of_lt hl)]
    exact a
  · show (s.gens.push _)[i]? = (s0.gens.push _)[i]?
    rw [Array.getElem?_push, Array.getElem?_push, h.size]
    split
    · rfl
    · exact h.ot i hi
  · have e : (s0.gens.push (.fresh c))[i]? = _ := e
    rw [Array.getElem?_push] at e
    split at e
    · cases e
    · exact h.good i k l c' p fs cl hi e
theorem Sim.nf (S : Sim T s0 s) {g : Nat} {y0 : GenState} (q : s0.gens[g]? = some y0) (h : susp y0 = false) : ¬ Fz T g := fun ⟨y, z1, z2⟩ => by
  have := (S.fz g y z1 z2).1
  rw [q] at this
  cases y with
  | suspended k l c p fs cl => rw [Option.some.inj this] at h; cases h
  | _ => cases z2
theorem goodG_of {e : End} (h : goodE e) : goodG e.genState := by
  cases e with
  | ret r => trivial
  | susp v g l k c p fs => exact h
theorem split_app {a b : List Frame} (ha : splitAtGen a = none) (hb : splitAtGen b = none) : splitAtGen (a ++ b) = none := by
  induction a with
  | nil => exact hb
  | cons f a ih =>
    cases f with
    | gen g k l c p => cases ha
    | ret k h g l c p kp =>
      have ha' : (splitAtGen a).map (fun (x : List Frame × (Nat × (GenResult → Sem PySem.Fin) × Code × Pos) × List Frame) => (Frame.ret k h g l c p kp :: x.1, x.2.1, x.2.2)) = none := ha
      show (splitAtGen (a ++ b)).map _ = none
      rw [ih (Option.map_eq_none_iff.mp ha')]; rfl
theorem split_tail {f : Frame} {fs : List Frame} (h : splitAtGen (f :: fs) = none) : splitAtGen fs = none := by
  cases f with
  | gen g k l c p => cases h
  | ret k hd g l c p kp =>
    have h' : (splitAtGen fs).map (fun (x : List Frame × (Nat × (GenResult → Sem PySem.Fin) × Code × Pos) × List Frame) => (Frame.ret k hd g l c p kp :: x.1, x.2.1, x.2.2)) = none := h
    exact Option.map_eq_none_iff.mp h'
end
theorem runs_sim {M : Model} {T : Array GenState} {Γ : Ctx} {p : Pos} {t : Sem PySem.Fin} {fs : List Frame} {s0 s0' : Shared} {e : End} (h : Runs M Γ p t fs s0 e s0') :
    splitAtGen fs = none → ∀ s, Sim T s0 s → ∃ s', Sim T s0' s' ∧ Runs M Γ p t fs s e s' ∧ goodE e := by
  induction h with
  | done => exact fun _ s S => ⟨s, S, .done, trivial⟩
  | raise => exact fun _ s S => ⟨s, S, .raise, trivial⟩
  | again q _ ih => exact fun hf s S => let ⟨s', a, b, c⟩ := ih hf s S; ⟨s', a, .again q b, c⟩
  | rule _ ih => exact fun hf s S => let ⟨s', a, b, c⟩ := ih hf s S; ⟨s', a, .rule b, c⟩
  | «at» _ ih => exact fun hf s S => let ⟨s', a, b, c⟩ := ih hf s S; ⟨s', a, .at b, c⟩
  | load q _ ih => exact fun hf s S => let ⟨s', a, b, c⟩ := ih hf s S; ⟨s', a, .load (by rw [S.heap]; exact q) b, c⟩
  | update q _ ih =>
    intro hf s S
    obtain ⟨s', a, b, c⟩ := ih hf _ (S.with_ _ _ _ _)
    exact ⟨s', a, .update (by rw [S.heap]; exact q) (by
      have := S.eq
      rw [S.eq] at b ⊢
      exact b), c⟩
  | loadIfAlive _ ih => exact fun hf s S => let ⟨s', a, b, c⟩ := ih hf s S; ⟨s', a, .loadIfAlive (by rw [S.heap]; exact b), c⟩
  | point _ ih => exact fun hf s S => let ⟨s', a, b, c⟩ := ih hf s S; ⟨s', a, .point b, c⟩
  | alloc _ ih =>
    intro hf s S
    obtain ⟨s', a, b, c⟩ := ih hf _ (S.with_ _ _ _ _)
    exact ⟨s', a, .alloc (by rw [S.eq] at b ⊢; exact b), c⟩
  | fresh _ ih =>
    intro hf s S
    obtain ⟨s', a, b, c⟩ := ih hf _ (S.with_ _ _ _ _)
    exact ⟨s', a, .fresh (by rw [S.eq] at b ⊢; exact b), c⟩
  | ask _ ih => exact fun hf s S => let ⟨s', a, b, c⟩ := ih hf s S; ⟨s', a, .ask b, c⟩
  | choose q _ ih =>
    intro hf s S
    obtain ⟨s', a, b, c⟩ := ih hf _ (S.with_ _ _ _ _)
    exact ⟨s', a, .choose q (by rw [S.eq] at b ⊢; exact b), c⟩
  | os _ ih =>
    intro hf s S
    obtain ⟨s', a, b, c⟩ := ih hf _ (S.with_ _ _ _ _)
    exact ⟨s', a, .os (by rw [S.eq] at b ⊢; exact b), c⟩
  | handled _ ih => exact fun hf s S => let ⟨s', a, b, c⟩ := ih hf s S; ⟨s', a, .handled b, c⟩
  | @genState g st k Γ p s1 e s2 q _ ih =>
    intro hf s S
    obtain ⟨s', a, b, c⟩ := ih hf s S
    by_cases hz : Fz T g
    · obtain ⟨y, e1, e2⟩ := hz
      obtain ⟨z1, z2⟩ := S.fz g y e1 e2
      have : st = stf y := by rw [z1] at q; exact (Option.some.inj q).symm
      exact ⟨s', a, .genState z2 (by rw [this, stf_seen] at b; exact b), c⟩
    · exact ⟨s', a, .genState (by rw [S.ot g hz]; exact q) b, c⟩
  | stack _ ih => exact fun hf s S => let ⟨s', a, b, c⟩ := ih hf s S; ⟨s', a, .stack b, c⟩
  | thread _ ih => exact fun hf s S => let ⟨s', a, b, c⟩ := ih hf s S; ⟨s', a, .thread b, c⟩
  | newGen _ ih =>
    intro hf s S
    obtain ⟨s', a, b, c⟩ := ih hf _ (S.push _)
    exact ⟨s', a, .newGen (by rw [S.size]; exact b), c⟩
  | call _ _ ih1 ih2 =>
    intro hf s S
    obtain ⟨s1, a1, b1, c1⟩ := ih1 rfl s S
    obtain ⟨s', a, b, c⟩ := ih2 hf s1 a1
    exact ⟨s', a, .call b1 b, c⟩
  | callSusp _ ih =>
    intro hf s S
    obtain ⟨s', a, b, c⟩ := ih rfl s S
    exact ⟨s', a, .callSusp b, split_app c rfl⟩
  | yield => exact fun hf s S => ⟨s, S, .yield, rfl⟩
  | @resumeFresh Γ p g l k s1 cc e1 s2 e s3 q _ hq _ ih1 ih2 =>
    intro hf s S
    have hz : ¬ Fz T g := fun ⟨y, z1, z2⟩ => by
      have := (S.fz g y z1 z2).1
      rw [q] at this
      cases y with
      | suspended k l c p fs cl => cases this
      | _ => cases z2
    obtain ⟨s', a, b, c⟩ := ih1 rfl _ (S.set hz (y := .running) trivial)
    obtain ⟨s'', a', b', c'⟩ := ih2 hf _ (a.set hz (goodG_of c))
    exact ⟨s'', a', .resumeFresh (by rw [S.ot g hz]; exact q) b hq b', c'⟩
  | @resumeSuspended Γ p g r l k s1 k0 l0 c0 p0 fs cl e1 s2 e s3 q hr hq _ ih1 ih2 =>
    intro hf s S
    by_cases hz : Fz T g
    · exfalso
      obtain ⟨y, z1, z2⟩ := hz
      have := (S.fz g y z1 z2).1
      rw [q] at this
      cases y with
      | suspended k' l' c' p' fs' cl' =>
        have e2 := Option.some.inj this
        simp only [stf] at e2
        injection e2 with e3
        rw [e3] at hr
        exact no_runs hr
      | _ => cases z2
    · obtain ⟨s', a, b, c⟩ := ih1 (S.good g _ _ _ _ _ _ hz q) _ (S.set hz (y := .running) trivial)
      obtain ⟨s'', a', b', c'⟩ := ih2 hf _ (a.set hz (goodG_of c))
      exact ⟨s'', a', .resumeSuspended (by rw [S.ot g hz]; exact q) b hq b', c'⟩
  | resumeJustStarted q hv _ ih =>
    intro hf s S
    have hz := S.nf q rfl
    obtain ⟨s', a, b, c⟩ := ih hf s S
    exact ⟨s', a, .resumeJustStarted (by rw [S.ot _ hz]; exact q) hv b, c⟩
  | resumeThrowFresh q _ ih =>
    intro hf s S
    have hz := S.nf q rfl
    obtain ⟨s', a, b, c⟩ := ih hf _ (S.set hz (y := .finished) trivial)
    exact ⟨s', a, .resumeThrowFresh (by rw [S.ot _ hz]; exact q) b, c⟩
  | resumeRunning q _ ih =>
    intro hf s S
    have hz := S.nf q rfl
    obtain ⟨s', a, b, c⟩ := ih hf s S
    exact ⟨s', a, .resumeRunning (by rw [S.ot _ hz]; exact q) b, c⟩
  | resumeFinished q _ ih =>
    intro hf s S
    have hz := S.nf q rfl
    obtain ⟨s', a, b, c⟩ := ih hf s S
    exact ⟨s', a, .resumeFinished (by rw [S.ot _ hz]; exact q) b, c⟩
  | segRet _ _ ih1 ih2 =>
    intro hf s S
    obtain ⟨s1, a1, b1, c1⟩ := ih1 rfl s S
    obtain ⟨s', a, b, c⟩ := ih2 (split_tail hf) s1 a1
    exact ⟨s', a, .segRet b1 b, c⟩
  | segGen _ _ ih1 ih2 => exact fun hf s S => by cases hf
  | segSuspOut q _ ih =>
    intro hf s S
    obtain ⟨s', a, b, c⟩ := ih rfl s S
    exact ⟨s', a, .segSuspOut q b, split_app c hf⟩
  | segSuspGen q _ _ _ ih1 ih2 =>
    intro hf s S
    rw [hf] at q
    cases q
theorem wakes_sim {M : Model} {T : Array GenState} {Γ : Ctx} {p : Pos} {g : Nat} {r : Resume} {s0 s0' : Shared} {res : GenResult} (h : Wakes M Γ p g r s0 res s0') {s : Shared} (S : Sim T s0 s) : ∃ s', Sim T s0' s' ∧ Wakes M Γ p g r s res s' := by
  by_cases hz : Fz T g
  · obtain ⟨y, z1, z2⟩ := hz
    have := (S.fz g y z1 z2).1
    cases y with
    | suspended k' l' c' p' fs' cl' =>
      unfold Wakes at h
      rw [this] at h
      simp only [stf] at h
      obtain ⟨e1, s1, hr, _⟩ := h
      exact (no_runs hr).elim
    | _ => cases z2
  · have hg := S.ot g hz
    unfold Wakes at h ⊢
    rw [hg]
    cases e : s0.gens[g]? with
    | none => rw [e] at h; exact h.elim
    | some y =>
      rw [e] at h
      cases y with
      | fresh c =>
        cases r with
        | send v =>
          cases v with
          | none =>
            obtain ⟨e1, s1, hr, hq, rfl, rfl⟩ := h
            obtain ⟨s', a, b, c⟩ := runs_sim hr rfl _ (S.set hz (y := .running) trivial)
            exact ⟨_, a.set hz (goodG_of c), e1, s', b, hq, rfl, rfl⟩
          | _ => obtain ⟨rfl, rfl⟩ := h; exact ⟨s, S, rfl, rfl⟩
        | throw x => obtain ⟨rfl, rfl⟩ := h; exact ⟨_, S.set hz (y := .finished) trivial, rfl, rfl⟩
      | suspended k0 l0 c0 p0 fs cl =>
        obtain ⟨e1, s1, hr, hq, rfl, rfl⟩ := h
        obtain ⟨s', a, b, c⟩ := runs_sim hr (S.good g _ _ _ _ _ _ hz e) _ (S.set hz (y := .running) trivial)
        exact ⟨_, a.set hz (goodG_of c), e1, s', b, hq, rfl, rfl⟩
      | running => obtain ⟨rfl, rfl⟩ := h; exact ⟨s, S, rfl, rfl⟩
      | finished => obtain ⟨rfl, rfl⟩ := h; exact ⟨s, S, rfl, rfl⟩
theorem wp_sim {α : Type} (M : Model) (T : Array GenState) (Γ : Ctx) (t : Sem α) : ∀ (Q : α → Pos → Shared → Prop) (E : Value → Pos → Shared → Prop) (p : Pos) (s0 s : Shared), Sim T s0 s → wp M Γ t Q E p s0 →
    wp M Γ t (fun a p' s' => ∃ s0', Sim T s0' s' ∧ Q a p' s0') (fun e p' s' => ∃ s0', Sim T s0' s' ∧ E e p' s0') p s := by
  induction t with
  | pure a => intro Q E p s0 s S h; exact ⟨s0, S, h⟩
  | raise e => intro Q E p s0 s S h; exact ⟨s0, S, h⟩
  | unsupported _ => intro Q E p s0 s _ h; exact h
  | finish _ => intro Q E p s0 s _ h; exact h
  | rule _ k ih => intro Q E p s0 s S h; exact ih () Q E p s0 s S h
  | «at» p' k ih => intro Q E p s0 s S h; exact ih () Q E p' s0 s S h
  | load a _ k ih => intro Q E p s0 s S h; obtain ⟨o, ho, h⟩ := h; exact ⟨o, by rw [S.heap]; exact ho, ih o Q E p s0 s S h⟩
  | update a _ f k ih =>
    intro Q E p s0 s S h
    have := ih () Q E p _ _ (S.with_ (s0.heap.update a f) s0.drawn s0.toks s0.os) h.2
    refine ⟨by rw [S.heap]; exact h.1, ?_⟩
    rw [S.eq] at this ⊢
    exact this
  | loadIfAlive a k ih => intro Q E p s0 s S h; have := ih _ Q E p s0 s S h; rw [← S.heap] at this; exact this
  | point _ k ih => intro Q E p s0 s S h; exact ih () Q E p s0 s S h
  | register _ _ => intro Q E p s0 s _ h; exact h
  | alloc o k ih =>
    intro Q E p s0 s S h
    have := ih _ Q E p _ _ (S.with_ (s0.heap.push o) s0.drawn s0.toks s0.os) h
    rw [S.eq] at this ⊢
    exact this
  | fresh k ih =>
    intro Q E p s0 s S h
    have := ih _ Q E p _ _ (S.with_ s0.heap s0.drawn (s0.toks + 1) s0.os) h
    rw [S.eq] at this ⊢
    exact this
  | ask k ih => intro Q E p s0 s S h; exact ih _ Q E p s0 s S h
  | choose src m k ih =>
    intro Q E p s0 s S h
    have := ih _ Q E p _ _ (S.with_ s0.heap (s0.drawn.bump src) s0.toks s0.os) h.2
    refine ⟨h.1, ?_⟩
    rw [S.eq] at this ⊢
    exact this
  | os q _ k ih =>
    intro Q E p s0 s S h
    have := ih _ Q E p _ _ (S.with_ s0.heap s0.drawn s0.toks (Os.step s0.os q).1) h
    rw [S.eq] at this ⊢
    exact this
  | call c hd _ _ k ih =>
    intro Q E p s0 s S h
    obtain ⟨r, s1, hr, h⟩ := h
    obtain ⟨s', a, b, _⟩ := runs_sim hr rfl s S
    exact ⟨r, s', b, ih r Q E p s1 s' a h⟩
  | handled own k ih => intro Q E p s0 s S h; exact ih _ Q E p s0 s S h
  | genState g k ih =>
    intro Q E p s0 s S h
    obtain ⟨st, hs, h⟩ := h
    have h' := ih _ Q E p s0 s S h
    by_cases hz : Fz T g
    · obtain ⟨y, e1, e2⟩ := hz
      obtain ⟨z1, z2⟩ := S.fz g y e1 e2
      have : st = stf y := by rw [z1] at hs; exact (Option.some.inj hs).symm
      exact ⟨y, z2, by rw [this, stf_seen] at h'; exact h'⟩
    · exact ⟨st, by rw [S.ot g hz]; exact hs, h'⟩
  | newGen c k ih =>
    intro Q E p s0 s S h
    have := ih _ Q E p _ _ (S.push c) h
    show wp M Γ (k s.gens.size) _ _ p _
    rw [S.size]
    exact this
  | resume g r _ k ih =>
    intro Q E p s0 s S h
    obtain ⟨res, s1, hw, h⟩ := h
    obtain ⟨s', a, b⟩ := wakes_sim hw S
    exact ⟨res, s', b, ih res Q E p s1 s' a h⟩
  | yield _ _ _ _ => intro Q E p s0 s _ h; exact h
  | stack k ih => intro Q E p s0 s S h; exact ih _ Q E p s0 s S h
  | fork _ _ => intro Q E p s0 s _ h; exact h
  | thread k ih => intro Q E p s0 s S h; exact ih _ Q E p s0 s S h
  | await _ _ _ _ _ => intro Q E p s0 s _ h; exact h
/-- all sleepers made deaf -/
def deaf (s : Shared) : Shared := { s with gens := s.gens.map stf }
theorem sim_deaf (s : Shared) : Sim s.gens (deaf s) s := by
  refine ⟨rfl, by simp [deaf], fun i y e1 e2 => ⟨by show (s.gens.map stf)[i]? = _; rw [Array.getElem?_map, e1]; rfl, e1⟩, fun i hi => ?_, fun i k l c p fs cl hi e => ?_⟩
  · show _ = (s.gens.map stf)[i]?
    rw [Array.getElem?_map]
    cases e : s.gens[i]? with
    | none => rfl
    | some y =>
      cases y with
      | suspended k l c p fs cl => exact (hi ⟨_, e, rfl⟩).elim
      | _ => rfl
  · have e : (s.gens.map stf)[i]? = _ := e
    rw [Array.getElem?_map] at e
    cases e1 : s.gens[i]? with
    | none => rw [e1] at e; cases e
    | some y =>
      cases y with
      | suspended k l c p fs cl => exact (hi ⟨_, e1, rfl⟩).elim
      | _ => rw [e1] at e; cases e
/-- the sleepers sleep on -/
def Still (s s' : Shared) : Prop := ∀ (i : Nat) (y : GenState), s.gens[i]? = some y → susp y = true → s'.gens[i]? = some y
theorem wpAny_still {α : Type} {M : Model} {A : Around} {s : Shared} {t : Sem α} {Q : α → Shared → Prop} {E : Value → Shared → Prop} (h : wpAny M A t Q E (deaf s)) :
    wpAny M A t (fun a s' => Still s s' ∧ ∃ g : Array GenState, g.size = s'.gens.size ∧ (∀ i : Nat, ¬ Fz s.gens i → s'.gens[i]? = g[i]?) ∧ Q a { s' with gens := g }) (fun e s' => Still s s' ∧ ∃ g : Array GenState, g.size = s'.gens.size ∧ (∀ i : Nat, ¬ Fz s.gens i → s'.gens[i]? = g[i]?) ∧ E e { s' with gens := g }) s := by
  intro Γ p hΓ
  refine Sem.wp_mono M Γ t (fun a p' s' ⟨s0', S, q⟩ => ?_) (fun e p' s' ⟨s0', S, q⟩ => ?_) p s (wp_sim M s.gens Γ t _ _ p (deaf s) s (sim_deaf s) (h Γ p hΓ))
  · refine ⟨fun i y e1 e2 => (S.fz i y e1 e2).2, s0'.gens, S.size.symm, S.ot, ?_⟩
    rw [S.eq]; exact q
  · refine ⟨fun i y e1 e2 => (S.fz i y e1 e2).2, s0'.gens, S.size.symm, S.ot, ?_⟩
    rw [S.eq]; exact q
end Slp

/-! ## DGb -/
/-! A generator that is walked by a loop: what the two frames see of one another. -/
namespace L2
open PySem PySem.Spec PyProof.Rows GenW

/-! ### the heap below an address -/
def belH (L : Addr) (h : Heap) : Heap := { h with objs := h.objs.extract 0 L }
theorem bel_ix {L : Nat} {h : Heap} {b : Nat} : (belH L h).objs[b]? = if b < L then h.objs[b]? else none := by
  show (h.objs.extract 0 L)[b]? = _
  rw [Array.getElem?_extract]
  by_cases hb : b < L
  · rw [if_pos hb, Nat.zero_add]
    by_cases hs : b < h.objs.size
    · rw [if_pos (by omega)]
    · rw [if_neg (by omega)]
      exact (Array.getElem?_eq_none (by omega)).symm
  · rw [if_neg hb, if_neg (by omega)]
theorem bel_of {L : Addr} {h : Heap} {b : Addr} {o : Obj} (e : (belH L h).get? b = some o) : b < L ∧ h.get? b = some o := by
  obtain ⟨e1, e2⟩ := Heap.get?_some_iff.mp e
  rw [bel_ix] at e1
  split at e1
  · next hb => exact ⟨hb, Heap.get?_some_iff.mpr ⟨e1, e2⟩⟩
  · cases e1
theorem bel_to {L : Addr} {h : Heap} {b : Addr} {o : Obj} (hb : b < L) (e : h.get? b = some o) : (belH L h).get? b = some o := by
  obtain ⟨e1, e2⟩ := Heap.get?_some_iff.mp e
  exact Heap.get?_some_iff.mpr ⟨by rw [bel_ix, if_pos hb]; exact e1, e2⟩
theorem bel_size {L : Nat} {h : Heap} (hL : L ≤ h.objs.size) : (belH L h).objs.size = L := by
  show (h.objs.extract 0 L).size = L
  rw [Array.size_extract]; omega
def belS (L : Addr) (s : Shared) : Shared := { s with heap := belH L s.heap }
theorem funFrames_cut {L : Addr} {h base : Heap} : ∀ {l : List Env}, (∀ b ∈ frs l, b < L) → h.FunFrames base l → (belH L h).FunFrames base l
  | [], _, _ => trivial
  | env :: r, hs, ⟨hk, ⟨L', o, hf, hn, ho, hd⟩, hr⟩ => by
    have hL : L' ∈ frs (env :: r) := by unfold frs; rw [List.filterMap_cons, hf]; exact List.mem_cons_self
    exact ⟨hk, ⟨L', o, hf, hn, bel_to (hs L' hL) ho, hd⟩, funFrames_cut (fun b hb => hs b (by unfold frs; rw [List.filterMap_cons, hf]; exact List.mem_cons_of_mem _ hb)) hr⟩

/-! ### what sleeps is known to its objects -/
abbrev anyO : HO := .ext fun _ => True
def frzF (F : Addr → Option Obj) (H : Hp) : Hp := fun b => match F b with
  | some o => some (.frz o anyO)
  | none => H b
def unF (F : Addr → Option Obj) (H : Hp) : Hp := fun b => match F b with
  | some _ => none
  | none => H b
def NoneOn (F : Addr → Option Obj) (H : Hp) : Prop := ∀ b o, F b = some o → H b = none
def FrzIn (F : Addr → Option Obj) (H : Hp) : Prop := ∀ b o, F b = some o → H b = some (.frz o anyO)
section
variable {F : Addr → Option Obj} {H : Hp} {b : Addr} {o : Obj}
theorem frzF_at (e : F b = some o) : frzF F H b = some (.frz o anyO) := by unfold frzF; rw [e]
theorem frzF_off (e : F b = none) : frzF F H b = H b := by unfold frzF; rw [e]
theorem unF_at (e : F b = some o) : unF F H b = none := by unfold unF; rw [e]
theorem unF_off (e : F b = none) : unF F H b = H b := by unfold unF; rw [e]
theorem frzF_in : FrzIn F (frzF F H) := fun b o e => frzF_at e
theorem unF_on : NoneOn F (unF F H) := fun b o e => unF_at e
theorem frzF_has (n : NoneOn F H) {u : HO} (e : H b = some u) : frzF F H b = some u := by
  cases q : F b with
  | none => rw [frzF_off q]; exact e
  | some o => rw [n b o q] at e; cases e
theorem unF_has {u : HO} (i : FrzIn F H) (e : H b = some u) (hu : ∀ o, u ≠ .frz o anyO) : unF F H b = some u := by
  cases q : F b with
  | none => rw [unF_off q]; exact e
  | some o => rw [i b o q] at e; cases e; exact (hu o rfl).elim
theorem unF_frz (n : NoneOn F H) : unF F (frzF F H) = H := by
  funext b
  cases q : F b with
  | none => rw [unF_off q, frzF_off q]
  | some o => rw [unF_at q, n b o q]
theorem unF_of {u : HO} (e : unF F H b = some u) : F b = none ∧ H b = some u := by
  cases q : F b with
  | none => rw [unF_off q] at e; exact ⟨rfl, e⟩
  | some o => rw [unF_at q] at e; cases e
theorem frzF_of {u : HO} (e : frzF F H b = some u) : (∃ o, F b = some o ∧ u = .frz o anyO) ∨ (F b = none ∧ H b = some u) := by
  cases q : F b with
  | none => rw [frzF_off q] at e; exact .inr ⟨rfl, e⟩
  | some o => rw [frzF_at q] at e; cases e; exact .inl ⟨o, rfl, rfl⟩
end
/-- F's things are younger than the frame X and none of its own -/
structure FOk (X : Cx) (pins : List (Addr × Obj)) (F : Addr → Option Obj) : Prop where
  young : ∀ b o, F b = some o → X.s_0.heap.objs.size ≤ b
  loc : ∀ b o, F b = some o → b ≠ X.env.locals
  cell : ∀ b o, F b = some o → ∀ x c, X.env.cells.lookup x = some c → c ≠ b
  pin : ∀ b o, F b = some o → ∀ p ∈ X.pn ++ pins, p.1 ≠ b
  plain : ∀ b o, F b = some o → (∀ xs, X.H_0 b ≠ some (.tup xs)) ∧ (∀ o u, X.H_0 b ≠ some (.frz o u)) ∧ ∀ ps, X.H_0 b ≠ some (.tbl ps)
section
variable {X : Cx} {pins : List (Addr × Obj)} {σ : St} {H H' : Hp} {s : Shared} {F : Addr → Option Obj}
/-- the abstract heap is exchanged for one that differs at F alone -/
theorem Inv.swap (ok : FOk X pins F) (I : Inv X pins σ H s) (same : ∀ b, F b = none → H' b = H b) (hok : HOk X.prog X.w H' s.heap) : Inv X pins σ H' s := by
  have off : ∀ b, b < X.s_0.heap.objs.size → F b = none := fun b hb => by
    cases q : F b with
    | none => rfl
    | some o => exact absurd (Nat.lt_of_lt_of_le hb (ok.young b o q)) (Nat.lt_irrefl _)
  have offp : ∀ b (P : Prop), (∀ o, F b = some o → P) → (F b = none → P) → P := fun b P h1 h2 => by
    cases q : F b with
    | none => exact h2 q
    | some o => exact h1 o q
  refine ⟨I.ok, I.os, I.bare, ⟨I.base.keep, I.base.slot, fun b o e n hx => ?_, I.base.there, fun b xs e => ?_, fun b o u e => ?_, fun b ps e => ?_⟩, I.loc, I.cell, ?_, fun x c e => ?_, fun p hp => ?_, hok, I.len⟩
  · rw [same b (off b (Heap.lt_size e))]; exact I.base.free b o e n hx
  · exact offp b _ (fun o q => ((ok.plain b o q).1 xs e).elim) fun q => by rw [same b q]; exact I.base.tups b xs e
  · exact offp b _ (fun o' q => ((ok.plain b o' q).2.1 o u e).elim) fun q => by rw [same b q]; exact I.base.frzs b o u e
  · exact offp b _ (fun o q => ((ok.plain b o q).2.2 ps e).elim) fun q => by rw [same b q]; exact I.base.tbls b ps e
  · exact offp _ _ (fun o q => (ok.loc _ o q rfl).elim) fun q => by rw [same _ q]; exact I.free
  · exact offp c _ (fun o q => (ok.cell c o q x c e rfl).elim) fun q => by rw [same _ q]; exact I.freeC x c e
  · obtain ⟨h1, h2, h3⟩ := I.pin p hp
    exact ⟨h1, offp p.1 _ (fun o q => (ok.pin _ o q p hp rfl).elim) fun q => by rw [same _ q]; exact h2, h3⟩
theorem Inv.sleep (ok : FOk X pins F) (I : Inv X pins σ H s) (n : NoneOn F H) (at' : ∀ b o, F b = some o → s.heap.get? b = some o) : Inv X pins σ (frzF F H) s := by
  refine I.swap ok (fun b q => frzF_off q) fun b u e => ?_
  rcases frzF_of e with ⟨o, q, rfl⟩ | ⟨q, e⟩
  · exact ⟨at' b o q, trivial, ⟨o, at' b o q⟩, fun _ _ _ _ => trivial⟩
  · exact (I.hok b u e).stay (fun _ _ _ z => z) (fun c z => frzF_has n z) fun c xs z => frzF_has n z
theorem Inv.awake (ok : FOk X pins F) (I : Inv X pins σ H s) (i : FrzIn F H) : Inv X pins σ (unF F H) s ∧ (∀ b o, F b = some o → s.heap.get? b = some o) := by
  refine ⟨I.swap ok (fun b q => unF_off q) fun b u e => ?_, fun b o q => ?_⟩
  · obtain ⟨q, e⟩ := unF_of e
    exact (I.hok b u e).stay (fun _ _ _ z => z) (fun c z => unF_has i z (fun o z => by cases z)) fun c xs z => unF_has i z (fun o z => by cases z)
  · exact (show ObjOk X.prog X.w H s.heap b (.frz o anyO) from I.hok b _ (i b o q)).1
end

/-! ### the generator's frame, seen from the loop that walks it -/
/-- X: the loop's frame, cp: what is pinned there; N, env: the generator's names and frame; A: where it is woken; a: its object -/
structure Gy where
  X : Cx
  cp : List (Addr × Obj)
  N : List Str
  env : Env
  A : Around
  a : Addr
  go : Obj
abbrev Gy.L (Z : Gy) : Addr := Z.env.locals
/-- the context of its body, woken at s0 -/
def Gy.cx (Z : Gy) (s0 : Shared) (H0 : Hp) : Cx where
  prog := Z.X.prog
  w := Z.X.w
  K := Z.X.K
  mg := Z.X.mg
  base := Z.X.base
  A := Z.A.deeper Z.env
  N := Z.N
  s_0 := belS Z.env.locals s0
  H_0 := H0
  env := Z.env
  outer := Z.X.stack
  stack := Z.env :: Z.X.stack
  ex := []
  fn := fun _ => true
  calm := true
  pn := (Z.a, Z.go) :: (Z.X.pn ++ Z.cp)
  xe := fun _ _ => False
structure Gy.Ok (Z : Gy) : Prop where
  kind : Z.env.scope.kind = .function
  glob : Z.env.globals = mainGlobals
  blt : Z.env.builtins = builtinsNs
  inj : ∀ x y c, Z.env.cells.lookup x = some c → Z.env.cells.lookup y = some c → x = y
  has : ∀ x, (Z.env.kindOf x = some .cell ∨ Z.env.kindOf x = some .free) → ∃ c, Z.env.cells.lookup x = some c
  cab : ∀ x c, Z.env.cells.lookup x = some c → Z.env.locals ≤ c
  hd : (Z.A.deeper Z.env).handled = none
  frames : (Z.A.deeper Z.env).frames = some (Z.env :: Z.X.stack)
  frame : Z.env.frame = some Z.env.locals
  bsz : Z.X.base.objs.size ≤ Z.env.locals
  frs : ∀ b ∈ frs Z.X.stack, b < Z.env.locals
  loc : Z.X.env.locals < Z.env.locals
  old : Z.X.s_0.heap.objs.size ≤ Z.env.locals
  xcell : ∀ x c, Z.X.env.cells.lookup x = some c → c < Z.env.locals
  a1 : Z.env.locals ≤ Z.a
  a2 : Z.a ≠ Z.env.locals
  a3 : ∀ x c, Z.env.cells.lookup x = some c → c ≠ Z.a
  god : ∀ v, Z.go.data ≠ .cell v
  pin : ∀ p ∈ Z.X.pn ++ Z.cp, p.1 ≠ Z.env.locals ∧ (∀ x c, Z.env.cells.lookup x = some c → c ≠ p.1) ∧ p.1 ≠ Z.a
  plain : ∀ b, Z.env.locals ≤ b → (∀ xs, Z.X.H_0 b ≠ some (.tup xs)) ∧ (∀ o u, Z.X.H_0 b ≠ some (.frz o u)) ∧ ∀ ps, Z.X.H_0 b ≠ some (.tbl ps)
/-- its own iterators -/
def IpOk (Z : Gy) (ip : List (Addr × Obj)) : Prop := ∀ p ∈ ip, Z.env.locals ≤ p.1 ∧ p.1 ≠ Z.env.locals ∧ (∀ x c, Z.env.cells.lookup x = some c → c ≠ p.1) ∧ p.1 ≠ Z.a ∧ (∀ q ∈ Z.X.pn ++ Z.cp, q.1 ≠ p.1) ∧ ∀ v, p.2.data ≠ .cell v
/-- its frame stands in s -/
structure Frm (Z : Gy) (ip : List (Addr × Obj)) (σ : St) (s : Shared) : Prop where
  loc : ∃ m, s.heap.Ns Z.env.locals m ∧ ∀ (i : Nat) (x : Str) (v : V), Z.N[i]? = some x → σ[i]? = some (some v) → Vis Z.env.scope x → ∃ u, RelV v u ∧ Look Z.env s.heap m x u
  cell : ∀ x c, Z.env.cells.lookup x = some c → ∃ v, s.heap.IsCell c v
  go : s.heap.get? Z.a = some Z.go
  ip : ∀ p ∈ ip, s.heap.get? p.1 = some p.2
  len : σ.length = Z.N.length
def Gy.Its (Z : Gy) (ip : List (Addr × Obj)) (b : Addr) : Prop := b = Z.env.locals ∨ (∃ x, Z.env.cells.lookup x = some b) ∨ b = Z.a ∨ ∃ p ∈ ip, p.1 = b
open Classical in
/-- its objects, as they stand in s -/
noncomputable def Gy.F (Z : Gy) (ip : List (Addr × Obj)) (s : Shared) : Addr → Option Obj := fun b => if Z.Its ip b then s.heap.get? b else none
section
variable {Z : Gy} {ip : List (Addr × Obj)} {σ γ : St} {s s0 s2 : Shared} {H H0 H2 : Hp} {b : Addr} {o : Obj}
theorem Gy.F_of (e : Z.F ip s b = some o) : Z.Its ip b ∧ s.heap.get? b = some o := by
  unfold Gy.F at e
  split at e
  · next h => exact ⟨h, e⟩
  · cases e
theorem Gy.F_to (h : Z.Its ip b) (e : s.heap.get? b = some o) : Z.F ip s b = some o := by
  unfold Gy.F; rw [if_pos h]; exact e
theorem Gy.its_young (ok : Z.Ok) (io : IpOk Z ip) (h : Z.Its ip b) : Z.env.locals ≤ b := by
  rcases h with rfl | ⟨x, h⟩ | rfl | ⟨p, hp, rfl⟩
  · exact Nat.le_refl _
  · exact ok.cab x b h
  · exact ok.a1
  · exact (io p hp).1
theorem Gy.fok (ok : Z.Ok) (io : IpOk Z ip) : FOk Z.X Z.cp (Z.F ip s) where
  young := fun b o e => Nat.le_trans ok.old (Gy.its_young ok io (Gy.F_of e).1)
  loc := fun b o e => Nat.ne_of_gt (Nat.lt_of_lt_of_le ok.loc (Gy.its_young ok io (Gy.F_of e).1))
  cell := fun b o e x c hc => Nat.ne_of_lt (Nat.lt_of_lt_of_le (ok.xcell x c hc) (Gy.its_young ok io (Gy.F_of e).1))
  pin := fun b o e p hp => by
    obtain ⟨p1, p2, p3⟩ := ok.pin p hp
    rcases (Gy.F_of e).1 with rfl | ⟨x, h⟩ | rfl | ⟨q, hq, rfl⟩
    · exact p1
    · exact Ne.symm (p2 x b h)
    · exact p3
    · exact (io q hq).2.2.2.2.1 p hp
  plain := fun b o e => ok.plain b (Gy.its_young ok io (Gy.F_of e).1)
/-- the frame stands as long as its objects do -/
theorem Frm.move (f : Frm Z ip σ s) (k : ∀ b o, Z.F ip s b = some o → s2.heap.get? b = some o) : Frm Z ip σ s2 := by
  obtain ⟨m, hn, hl⟩ := f.loc
  have kc : ∀ x c, Z.env.cells.lookup x = some c → ∀ v, s.heap.IsCell c v → s2.heap.IsCell c v := fun x c e v ⟨o, ho, hd⟩ => ⟨o, k c o (Gy.F_to (.inr (.inl ⟨x, e⟩)) ho), hd⟩
  refine ⟨⟨m, hn.at' fun o e => k _ o (Gy.F_to (.inl rfl) e), fun i x v e1 e2 e3 => ?_⟩, fun x c e => ?_, k _ _ (Gy.F_to (.inr (.inr (.inl rfl))) f.go), fun p hp => k _ _ (Gy.F_to (.inr (.inr (.inr ⟨p, hp, rfl⟩))) (f.ip p hp)), f.len⟩
  · obtain ⟨u, r, l⟩ := hl i x v e1 e2 e3
    refine ⟨u, r, ?_⟩
    rcases l with l | ⟨kk, c, e, z⟩
    · exact .inl l
    · exact .inr ⟨kk, c, e, kc x c e _ z⟩
  · obtain ⟨v, z⟩ := f.cell x c e
    exact ⟨v, kc x c e v z⟩
/-- the generator is woken -/
theorem Gy.enter (ok : Z.Ok) (io : IpOk Z ip) (f : Frm Z ip σ s) (I : Inv Z.X Z.cp γ H s) (n : ∀ b, Z.Its ip b → H b = none) : Inv (Z.cx s H) ip σ H s := by
  obtain ⟨m, hn, hl⟩ := f.loc
  have hL : Z.env.locals < s.heap.objs.size := hn.lt
  have csz : (belH Z.env.locals s.heap).objs.size = Z.env.locals := bel_size (Nat.le_of_lt hL)
  have fl : ∀ b ∈ frs Z.X.stack, b < Z.env.locals := ok.frs
  refine ⟨⟨I.ok.mod, ok.kind, ok.glob, ok.blt, ?_, ok.inj, ok.has, fun x c _ h => ?_, fun _ => ok.hd, ok.frames, .inr ⟨rfl, ok.frame⟩, (fun b z => nomatch z), fun b o e => ?_, ?_, (fun b o e z => nomatch z), (fun b z => nomatch z), funFrames_cut fl I.stack, fun b hb => I.stkFree b hb⟩,
    rfl, I.bare, ⟨fun b o e _ _ _ => (bel_of e).2, fun b o e _ _ _ => ⟨o.slots, (bel_of e).2⟩, fun b o e h _ => h, fun b o e _ => ⟨o, (bel_of e).2⟩, fun b xs e => e, fun b o u e => e, fun b ps e => ⟨#[], by rw [show H b = _ from e]; simp⟩⟩,
    ⟨m, hn, hl⟩, f.cell, n _ (.inl rfl), fun x c e => n c (.inr (.inl ⟨x, e⟩)), fun p hp => ?_, I.hok, f.len⟩
  · show (belH Z.env.locals s.heap).objs.size ≤ Z.env.locals
    rw [csz]; exact Nat.le_refl _
  · show (belH Z.env.locals s.heap).objs.size ≤ c
    rw [csz]; exact ok.cab x c h
  · obtain ⟨q1, q2⟩ := I.bs b o e
    exact ⟨bel_to (Nat.lt_of_lt_of_le (Heap.lt_size e) ok.bsz) q1, q2⟩
  · show _ ≤ (belH Z.env.locals s.heap).objs.size
    rw [csz]; exact ok.bsz
  · have nfs : ∀ b, Z.env.locals ≤ b → b ∉ frs Z.X.stack := fun b hb z => absurd (Nat.lt_of_lt_of_le (fl b z) hb) (Nat.lt_irrefl _)
    rcases List.mem_append.mp hp with hp | hp
    · rcases List.mem_cons.mp hp with rfl | hp
      · exact ⟨f.go, n _ (.inr (.inr (.inl rfl))), ok.a2, nfs _ ok.a1, ok.god⟩
      · obtain ⟨h1, h2, h3, h4, h5⟩ := I.pin p hp
        refine ⟨h1, h2, (ok.pin p hp).1, fun z => ?_, h5⟩
        rcases List.mem_cons.mp (I.stkSub _ z) with z | z
        · exact h3 z
        · exact h4 z
    · obtain ⟨h1, h2, h3, h4, _, h5⟩ := io p hp
      exact ⟨f.ip p hp, n _ (.inr (.inr (.inr ⟨p, hp, rfl⟩))), h2, nfs _ h1, h5⟩
/-- the generator's frame at its sleep -/
theorem Gy.frm (J : Inv (Z.cx s0 H0) ip σ H s) : Frm Z ip σ s ∧ ∀ b, Z.Its ip b → H b = none := by
  refine ⟨⟨J.loc, J.cell, (J.pin (Z.a, Z.go) (List.mem_append_left _ List.mem_cons_self)).1, fun p hp => (J.pin p (List.mem_append_right _ hp)).1, J.len⟩, fun b hb => ?_⟩
  rcases hb with rfl | ⟨x, h⟩ | rfl | ⟨p, hp, rfl⟩
  · exact J.free
  · exact J.freeC x b h
  · exact (J.pin (Z.a, Z.go) (List.mem_append_left _ List.mem_cons_self)).2.1
  · exact (J.pin p (List.mem_append_right _ hp)).2.1
/-- .. the loop's frame at that time -/
theorem Gy.back (ok : Z.Ok) (I : Inv Z.X Z.cp γ H0 s0) (J : Inv (Z.cx s0 H0) ip σ H s) : Inv Z.X Z.cp γ H s := by
  have hL0 : Z.env.locals < s0.heap.objs.size ∨ s0.heap.objs.size ≤ Z.env.locals := Nat.lt_or_ge _ _
  have dead : ∀ b : Addr, b ∉ ((List.range (s0.heap.objs.size + s.heap.objs.size)).filter fun b => decide (Z.env.locals ≤ b ∧ ∀ p ∈ Z.X.pn ++ Z.cp, p.1 ≠ b)) → b < s0.heap.objs.size → b < Z.env.locals ∨ ∃ p ∈ Z.X.pn ++ Z.cp, p.1 = b := fun b hb hs => by
    by_cases h1 : b < Z.env.locals
    · exact .inl h1
    · refine .inr (Classical.byContradiction fun h2 => hb (List.mem_filter.mpr ⟨List.mem_range.mpr (Nat.lt_of_lt_of_le hs (Nat.le_add_right _ _)), decide_eq_true ⟨Nat.le_of_not_lt h1, fun p hp z => h2 ⟨p, hp, z⟩⟩⟩))
  have pj : ∀ p ∈ Z.X.pn ++ Z.cp, s.heap.get? p.1 = some p.2 ∧ H p.1 = none := fun p hp => by
    obtain ⟨h1, h2, _⟩ := J.pin p (List.mem_append_left _ (List.mem_cons_of_mem _ hp))
    exact ⟨h1, h2⟩
  refine I.call' (ch := (List.range (s0.heap.objs.size + s.heap.objs.size)).filter fun b => decide (Z.env.locals ≤ b ∧ ∀ p ∈ Z.X.pn ++ Z.cp, p.1 ≠ b)) J.os ⟨fun b o e hn hb hx => ?_, fun b o e hn hb hx => ?_, fun b o e hn hx => ?_, fun b o e hx => ?_, J.base.tups, J.base.frzs, J.base.tbls⟩ J.hok J.bare fun b hb => ?_
  · rcases dead b hx (Heap.lt_size e) with h | ⟨p, hp, rfl⟩
    · exact J.base.keep b o (bel_to h e) hn hb (fun z => nomatch z)
    · rw [(I.pin p hp).1] at e
      cases e
      exact (pj p hp).1
  · exact J.base.slot b o (bel_to (ok.frs b hb) e) hn hb fun z => nomatch z
  · rcases dead b hx (Heap.lt_size e) with h | ⟨p, hp, rfl⟩
    · exact J.base.free b o (bel_to h e) hn fun z => nomatch z
    · exact (pj p hp).2
  · rcases dead b hx (Heap.lt_size e) with h | ⟨p, hp, rfl⟩
    · exact J.base.there b o (bel_to h e) fun z => nomatch z
    · exact ⟨_, (pj p hp).1⟩
  · obtain ⟨h1, h2⟩ := of_decide_eq_true (List.mem_filter.mp hb).2
    exact ⟨.inr (Nat.le_trans ok.old h1), Nat.ne_of_gt (Nat.lt_of_lt_of_le ok.loc h1), fun x c e => Nat.ne_of_lt (Nat.lt_of_lt_of_le (ok.xcell x c e) h1), h2⟩
end
end L2

/-! ## DGc -/
/-! The body of a generator that a loop walks: its statements. -/
namespace L2
open PySem PySem.Spec PyProof.Rows GenW

/-- what the one that walks makes of an item x: how many more may come, x, its own slots, the heap, what it has to give back to go on -/
abbrev YD := Nat → V → St → Hp → (St → Hp → Prop) → Prop
/-- what is wanted behind a statement: by the number of items that may still come, the slots of the one that walks, the generator's slots, the heap -/
structure YEnds where
  yd : YD
  nx : Nat → St → St → Hp → Prop
  rt : Nat → St → V → Hp → Prop
  bk : Nat → St → St → Hp → Prop := fun _ _ _ _ => False
  ct : Nat → St → St → Hp → Prop := fun _ _ _ _ => False
abbrev TY := YEnds → Nat → St → St → Hp → Prop
def YEnds.at (D : YEnds) (n : Nat) (γ : St) : Ends := { nx := D.nx n γ, rt := D.rt n γ, bk := D.bk n γ, ct := D.ct n γ }
/-- the generator runs -/
def GIY (Z : Gy) (ip : List (Addr × Obj)) (γ σ : St) (H : Hp) (s : Shared) : Prop :=
  ∃ s0 H0, Z.env.locals ≤ s0.heap.objs.size ∧ Inv Z.X Z.cp γ H0 s0 ∧ Inv (Z.cx s0 H0) ip σ H s
def YY (Z : Gy) (yd : YD) : Protocol := fun n _ v s kap =>
  ∃ x γ H F k, RelV x v ∧ Inv Z.X Z.cp γ (frzF F H) s ∧ NoneOn F H ∧ FOk Z.X Z.cp F ∧ F Z.a = some Z.go ∧ yd n x γ H k ∧
    ∀ γ' H' s'', Inv Z.X Z.cp γ' H' s'' → FrzIn F H' → k γ' (unF F H') → kap (.send .none) s'' ∧ kap (.send (.bool true)) s''
def RY (Z : Gy) (fin : Nat → St → Hp → Prop) : GenEnd := fun n _ r s => ((r = .ok (.ret .none) ∨ r = .ok .next) ∧ ∃ γ H, Inv Z.X Z.cp γ H s ∧ fin n γ H) ∨ ∃ e, r = .error e ∧ False
def GSPY (Z : Gy) (ip : List (Addr × Obj)) (D : YEnds) (n : Nat) (f : Flow) (s : Shared) : Prop :=
  match f with
  | .next => ∃ γ σ H, GIY Z ip γ σ H s ∧ D.nx n γ σ H
  | .brk => ∃ γ σ H, GIY Z ip γ σ H s ∧ D.bk n γ σ H
  | .cont => ∃ γ σ H, GIY Z ip γ σ H s ∧ D.ct n γ σ H
  | .ret u => ∃ v γ σ H, GIY Z ip γ σ H s ∧ RelV v u ∧ D.rt n γ v H
/-- where the generator's code stands -/
structure GCY (Z : Gy) (ip : List (Addr × Obj)) (c : Code) (fs : List Frame) (gd : Bool → Bool) : Prop where
  ok : Z.Ok
  io : IpOk Z ip
  over : Z.A.over c fs = Z.A.deeper Z.env
  split : splitAtGen fs = none
  guard : fs.any Frame.guarded = false
  gd : gd false = false
/-- what follows -/
def GKY (Z : Gy) (ip : List (Addr × Obj)) (R : GenEnd) (c : Code) (fs : List Frame) (K : Flow → Sem PySem.Fin) (D : YEnds) : Prop :=
  ∀ (n : Nat) (s₀ s : Shared) (f : Flow), GSPY Z ip D n f s → Seg (model Z.X.prog Z.X.w) Z.A R (YY Z D.yd) n s₀ c (K f) fs s
structure GSY (Z : Gy) (st : Stmt) (t : TY) : Prop where
  run : ∀ (ip : List (Addr × Obj)) (R : GenEnd) (n : Nat) (s₀ : Shared) (c : Code) (fs : List Frame) (K : Flow → Sem PySem.Fin) (J : Value → Sem PySem.Fin) (gd : Bool → Bool) (lv : List Value → List Value) (s : Shared) (γ σ : St) (H : Hp) (D : YEnds),
    GCY Z ip c fs gd → GKY Z ip R c fs K D → GIY Z ip γ σ H s → t D n γ σ H →
    Seg (model Z.X.prog Z.X.w) Z.A R (YY Z D.yd) n s₀ c ((exec st Z.env).wrap K J gd lv) fs s
structure GSYs (Z : Gy) (st : List Stmt) (t : TY) : Prop where
  run : ∀ (ip : List (Addr × Obj)) (R : GenEnd) (n : Nat) (s₀ : Shared) (c : Code) (fs : List Frame) (K : Flow → Sem PySem.Fin) (J : Value → Sem PySem.Fin) (gd : Bool → Bool) (lv : List Value → List Value) (s : Shared) (γ σ : St) (H : Hp) (D : YEnds),
    GCY Z ip c fs gd → GKY Z ip R c fs K D → GIY Z ip γ σ H s → t D n γ σ H →
    Seg (model Z.X.prog Z.X.w) Z.A R (YY Z D.yd) n s₀ c ((execs st Z.env).wrap K J gd lv) fs s
section
variable {Z : Gy} {st : Stmt} {rest : List Stmt}
/-- a statement that hands out nothing -/
def tYP (t : TS) : TY := fun D n γ σ H => t (D.at n γ) σ H
theorem spy_of {ip : List (Addr × Obj)} {s0 s : Shared} {H0 : Hp} {γ : St} {D : YEnds} {n : Nat} {f : Flow} (hl : Z.env.locals ≤ s0.heap.objs.size) (I : Inv Z.X Z.cp γ H0 s0) (h : SP (Z.cx s0 H0) ip (D.at n γ) f s) : GSPY Z ip D n f s := by
  cases f with
  | next => obtain ⟨σ, H, J, q⟩ := h; exact ⟨γ, σ, H, ⟨s0, H0, hl, I, J⟩, q⟩
  | brk => obtain ⟨σ, H, J, q⟩ := h; exact ⟨γ, σ, H, ⟨s0, H0, hl, I, J⟩, q⟩
  | cont => obtain ⟨σ, H, J, q⟩ := h; exact ⟨γ, σ, H, ⟨s0, H0, hl, I, J⟩, q⟩
  | ret u => obtain ⟨v, σ, H, J, r, q⟩ := h; exact ⟨v, γ, σ, H, ⟨s0, H0, hl, I, J⟩, r, q⟩
theorem gsy_ps {t : TS} (h : ∀ s0 H0, PS (Z.cx s0 H0) st t) : GSY Z st (tYP t) := by
  refine ⟨fun ip R n s₀ c fs K J gd lv s γ σ H D g k ⟨s0, H0, hl, I, J1⟩ ht => ?_⟩
  refine seg_wrap ?_
  rw [g.over]
  exact wpAny_mono ((h s0 H0).run _ s σ H (D.at n γ) J1 ht) (fun f s' hs => k n s₀ s' f (spy_of hl I hs)) fun _ _ hx => hx.elim
theorem gsys_pss {t : TS} (h : ∀ s0 H0, PSs (Z.cx s0 H0) rest t) : GSYs Z rest (tYP t) := by
  refine ⟨fun ip R n s₀ c fs K J gd lv s γ σ H D g k ⟨s0, H0, hl, I, J1⟩ ht => ?_⟩
  refine seg_wrap ?_
  rw [g.over]
  exact wpAny_mono ((h s0 H0).run _ s σ H (D.at n γ) J1 ht) (fun f s' hs => k n s₀ s' f (spy_of hl I hs)) fun _ _ hx => hx.elim
def tY0 : TY := fun D n γ σ H => D.nx n γ σ H
theorem gsys_nil : GSYs Z [] tY0 := ⟨fun ip R n s₀ c fs K J gd lv s γ σ H D g k hI ht => seg_execs_nil (k n s₀ s .next ⟨γ, σ, H, hI, ht⟩)⟩
def tYThen (t u : TY) : TY := fun D n γ σ H => t { D with nx := fun n' γ' σ' H' => u D n' γ' σ' H' } n γ σ H
theorem gsys_cons {t u : TY} (a : GSY Z st t) (b : GSYs Z rest u) : GSYs Z (st :: rest) (tYThen t u) := by
  refine ⟨fun ip R n s₀ c fs K J gd lv s γ σ H D g k hI ht => ?_⟩
  refine seg_execs_cons ?_
  refine a.run ip R n s₀ c fs _ J gd lv s γ σ H { D with nx := fun n' γ' σ' H' => u D n' γ' σ' H' } g (fun n' s₀' s' f hs => ?_) hI ht
  cases f with
  | next =>
    obtain ⟨γ', σ', H', I', q⟩ := hs
    exact b.run ip R n' s₀' c fs K J gd lv s' γ' σ' H' D g k I' q
  | brk => exact k n' s₀' s' .brk hs
  | cont => exact k n' s₀' s' .cont hs
  | ret u => exact k n' s₀' s' (.ret u) hs
/-- its objects are there -/
theorem Frm.there {ip : List (Addr × Obj)} {σ : St} {s : Shared} (f : Frm Z ip σ s) {b : Addr} (h : Z.Its ip b) : ∃ o, Z.F ip s b = some o := by
  have h0 := h
  rcases h with rfl | ⟨x, h⟩ | rfl | ⟨p, hp, rfl⟩
  · obtain ⟨m, ⟨o, _, _, ho, _⟩, _⟩ := f.loc
    exact ⟨o, Gy.F_to h0 ho⟩
  · obtain ⟨v, o, ho, _⟩ := f.cell x b h
    exact ⟨o, Gy.F_to h0 ho⟩
  · exact ⟨_, Gy.F_to h0 f.go⟩
  · exact ⟨_, Gy.F_to h0 (f.ip p hp)⟩
/-! ### yield -/
def tYYield (te : TE) : TY := fun D n γ σ H => ∃ m, n = m + 1 ∧ te σ H fun x H1 => D.yd m x γ H1 fun γ' H2 => D.nx m γ' σ H2
theorem gsy_yield {e : Expr} {te : TE} {yp pos : Pos} (he : ∀ s0 H0, PE (Z.cx s0 H0) e te) (hco : Z.env.scope.isCoroutine = false := by rfl) (hi : interactive Z.env = false := by rfl) : GSY Z (.Expr (.Yield (some e) yp) pos) (tYYield te) := by
  refine ⟨fun ip R n s₀ c fs K J gd lv s γ σ H D g k ⟨s0, H0, hl, I, J1⟩ ht => ?_⟩
  obtain ⟨n, rfl, ht⟩ := ht
  refine seg_Expr_Yield g.split g.gd g.guard ?_ hco hi
  rw [g.over]
  refine wpAny_mono ((he s0 H0).run _ s σ H _ J1 ht) (fun v s' hv => ?_) fun _ _ hx => hx.elim
  obtain ⟨x, H1, J2, rv, q⟩ := hv
  intro kap hk
  have I2 : Inv Z.X Z.cp γ H1 s' := Gy.back g.ok I J2
  obtain ⟨f2, n2⟩ := Gy.frm J2
  have fo : FOk Z.X Z.cp (Z.F ip s') := Gy.fok g.ok g.io
  have nn : NoneOn (Z.F ip s') H1 := fun b o e => n2 b (Gy.F_of e).1
  refine ⟨x, γ, H1, Z.F ip s', _, rv, I2.sleep fo nn fun b o e => (Gy.F_of e).2, nn, fo, Gy.F_to (.inr (.inr (.inl rfl))) f2.go, q, fun γ' H' s'' I' i kq => ?_⟩
  obtain ⟨I3, at3⟩ := I'.awake fo i
  have f3 := f2.move at3
  have J3 : Inv (Z.cx s'' (unF (Z.F ip s') H')) ip σ (unF (Z.F ip s') H') s'' := Gy.enter g.ok g.io f3 I3 fun b hb => by
    obtain ⟨o, e⟩ := f2.there hb
    exact unF_at e
  have hL : Z.env.locals ≤ s''.heap.objs.size := let ⟨_, hn, _⟩ := f3.loc; Nat.le_of_lt hn.lt
  have go := fun s1 => k n s1 s'' .next ⟨γ', σ, _, ⟨s'', _, hL, I3, J3⟩, kq⟩
  exact ⟨hk .none s'' (go s''), hk (.bool true) s'' (go s'')⟩
/-! ### if -/
def tYIf (c : TT) (t u : TY) : TY := fun D n γ σ H => c σ H fun b H1 => if b = true then t D n γ σ H1 else u D n γ σ H1
theorem gsy_if {c : Expr} {a b : List Stmt} {tc : TT} {t u : TY} {pos : Pos} (hc : ∀ s0 H0, PT (Z.cx s0 H0) c tc) (ha : GSYs Z a t) (hb : GSYs Z b u) : GSY Z (.If c a b pos) (tYIf tc t u) := by
  refine ⟨fun ip R n s₀ c' fs K J gd lv s γ σ H D g k ⟨s0, H0, hl, I, J1⟩ ht => ?_⟩
  rw [exec_If]
  refine seg_bind_wrap (wpAny_standAt ?_)
  refine seg_bind_wrap ?_
  rw [g.over]
  refine wpAny_mono ((hc s0 H0).run _ s σ H _ J1 ht) (fun v s' hv => ?_) fun _ _ hx => hx.elim
  obtain ⟨H1, J2, q⟩ := hv
  cases v with
  | true => exact ha.run ip R n s₀ c' fs K J gd lv s' γ σ H1 D g k ⟨s0, H0, hl, I, J2⟩ q
  | false => exact hb.run ip R n s₀ c' fs K J gd lv s' γ σ H1 D g k ⟨s0, H0, hl, I, J2⟩ q
/-! ### for, over what is no generator -/
theorem gcy_loop {ip : List (Addr × Obj)} {c c' : Code} {fs : List Frame} {gd : Bool → Bool} {k : Result → Sem PySem.Fin} {l kp : List Value} {p : Pos} (g : GCY Z ip c fs gd) (hw : c'.weight = 0) (hu : c'.cUnits = 0) :
    GCY Z ip c' (.ret k none (gd false) l c p kp :: fs) id where
  ok := g.ok
  io := g.io
  over := (over_loop hw hu).trans g.over
  split := by
    show (splitAtGen fs).map _ = none
    rw [g.split]; rfl
  guard := by
    show (gd false || fs.any Frame.guarded) = false
    rw [g.gd, g.guard]; rfl
  gd := rfl
/-- one turn of a for loop -/
theorem seg_forLoop {prog : Program} {w : World} {A : Around} {R : GenEnd} {Y : Protocol} {n : Nat} {s₀ : Shared} {fs : List Frame} {s : Shared} {env : Env} {target : Expr} {it : Value} {body orelse : List Stmt}
    {J : Value → Sem PySem.Fin} (hJ : J = fun e => (do noteFrame e env; theTreesLotGoes e : Sem Unit).wrap (fun _ => .raise e) .raise id id)
    (h : wpAny (model prog w) (A.over (.forLoop target it body orelse env) fs) (pyNext it) (fun r s1 => match r with
      | none => Seg (model prog w) A R Y n s₀ (.forLoop target it body orelse env) (.pure (.again (.block orelse env))) fs s1
      | some v => wpAny (model prog w) (A.over (.forLoop target it body orelse env) fs) (letOwnedTupleGo target it v) (fun _ s2 => wpAny (model prog w) (A.over (.forLoop target it body orelse env) fs) (assign target env v) (fun _ s3 =>
          Seg (model prog w) A R Y n s₀ (.forLoop target it body orelse env) ((execs body env).wrap (fun f => match f with
            | .next | .cont => .pure (.again (.forLoop target it body orelse env))
            | .brk => .pure (.done .next)
            | .ret v => .pure (.done (.ret v))) J id id) fs s3) (fun _ _ => False) s2) (fun _ _ => False) s1) (fun _ _ => False) s) :
    Seg (model prog w) A R Y n s₀ (.forLoop target it body orelse env) ((model prog w).den (.forLoop target it body orelse env)) fs s := by
  show Seg _ A R Y n s₀ _ ((forTurn target it body orelse env).onRaise (fun x => do noteFrame x env; theTreesLotGoes x)) fs s
  unfold forTurn
  rw [Sem.onRaise_eq_wrap]
  refine seg_bind_wrap (wpAny_standAt ?_)
  refine seg_bind_wrap (wpAny_onRaise (wpAny_mono h (fun r s1 h1 => ?_) fun _ _ hx => hx.elim))
  cases r with
  | none => exact h1
  | some v =>
    refine seg_bind_wrap (wpAny_mono h1 (fun _ s2 h2 => ?_) fun _ _ hx => hx.elim)
    refine seg_bind_wrap (wpAny_mono h2 (fun _ s3 h3 => ?_) fun _ _ hx => hx.elim)
    rw [Sem.bind_eq_wrap', Sem.wrap_wrap]
    subst hJ
    refine Eq.mp (congrArg (fun t => Seg (model prog w) A R Y n s₀ (.forLoop target it body orelse env) t fs s3) (Sem.wrap_congr _ _ _ (fun f => ?_) (fun e => ?_))) h3
    · cases f <;> rfl
    · show _ = Sem.bind _ _
      rw [Sem.bind_eq_wrap]
def tYFor (wi : TI) (g : TG) (tb : TY) : TY := fun D n γ σ H => wi σ H fun J H1 => ∃ W : Nat → Nat → Nat → St → St → Hp → Prop, (∃ m, W 0 m n γ σ H1) ∧ ∀ i m n γ σ H, W i m n γ σ H →
  (J.stop i H ∧ D.nx n γ σ H) ∨ (J.go i H ∧ ∃ N : Nat → St → St → Hp → Prop, (∀ n' γ' σ' H', N n' γ' σ' H' → ∃ m', m' < m ∧ W (i + 1) m' n' γ' σ' H') ∧ ∀ x H', J.yld i H x H' → g x σ H' fun σ2 H2 => tb { D with nx := N, ct := N, bk := D.nx } n γ σ2 H2)
theorem gsy_for {tg iter : Expr} {body : List Stmt} {wi : TI} {g : TG} {tb : TY} {pos : Pos} (hi : ∀ s0 H0, PI (Z.cx s0 H0) tg iter wi) (hg : ∀ s0 H0, PG (Z.cx s0 H0) tg g) (hb : GSYs Z body tb)
    (hs : ∀ x, foldedSetIterable iter Z.env x = pure x := by intro _; rfl) : GSY Z (.For tg iter body [] pos) (tYFor wi g tb) := by
  refine ⟨fun ip R n s₀ c fs K J gd lv s γ σ H D g k ⟨s0, H0, hl, I, J1⟩ ht => ?_⟩
  rw [exec_For]
  refine seg_bind_wrap (wpAny_standAt ?_)
  refine seg_bind_wrap ?_
  rw [g.over]
  refine wpAny_mono ((hi s0 H0).run _ s σ H _ J1 ht) (fun v s1 h1 => ?_) fun _ _ hx => hx.elim
  refine seg_bind_wrap (wpAny_of_eq (hs v) ?_)
  refine seg_bind_wrap (wpAny_standAt ?_)
  refine seg_bind_wrap (wpAny_holding ?_)
  rw [g.over]
  refine wpAny_mono h1 (fun itv s2 h2 => ?_) fun _ _ hx => hx.elim
  obtain ⟨it, fp, tn, Jt, H2, e, I2, T, st2, f2, W, ⟨m0, w0⟩, turn⟩ := h2
  subst e
  have hLb : ∀ b ∈ fp, Z.env.locals ≤ b := fun b hb => by
    obtain ⟨_, _, _, h, _⟩ := f2 b hb
    rcases h with h | h
    · cases h
    · have h' : (belH Z.env.locals s0.heap).objs.size ≤ b := h
      rwa [bel_size hl] at h'
  -- what stays true of the iterator's objects through the loop
  have stat : ∀ {s0' : Shared} {H0' H' : Hp}, Z.env.locals ≤ s0'.heap.objs.size → (∀ b ∈ fp, H' b = none) → ∀ b ∈ fp, FpOk (Z.cx s0' H0') ip H' b := fun {s0' H0' H'} hl' hn b hb =>
    ⟨hn b hb, (f2 b hb).2.1, (f2 b hb).2.2.1, .inr (by
      show (belH Z.env.locals s0'.heap).objs.size ≤ b
      rw [bel_size hl']; exact hLb b hb), (f2 b hb).2.2.2.2.1, (f2 b hb).2.2.2.2.2⟩
  have io' : ∀ {h : Heap} {i : Nat}, tn i h → IpOk Z (ip ++ pinsAt fp h) := fun {h i} ht p hp => by
    rcases List.mem_append.mp hp with hp | hp
    · exact g.io p hp
    · obtain ⟨hb, e⟩ := of_pinsAt hp
      obtain ⟨_, q2, _, _, q5, q6⟩ := f2 p.1 hb
      refine ⟨hLb p.1 hb, q2, q5, fun z => ?_, fun q hq => ?_, ?_⟩
      · exact q6 (Z.a, Z.go) (List.mem_append_left _ List.mem_cons_self) z.symm
      · exact q6 q (List.mem_append_left _ (List.mem_cons_of_mem _ hq))
      · obtain ⟨o, e', d⟩ := T.obj _ _ ht p.1 hb
        rw [e] at e'; cases e'; exact d
  refine seg_call fun p => ?_
  have gl := fun (kk : Result → Sem PySem.Fin) => gcy_loop (k := kk) (c' := .forLoop tg (.ref it) body [] Z.env) (l := lv []) (kp := []) (p := p) g rfl rfl
  have loop : ∀ (m i n : Nat) (s₀ s : Shared) (γ σ : St) (H : Hp), W i m n γ σ H → GIY Z ip γ σ H s → tn i s.heap → (∀ b ∈ fp, H b = none) →
      Seg (model Z.X.prog Z.X.w) Z.A R (YY Z D.yd) n s₀ (.forLoop tg (.ref it) body [] Z.env) ((model Z.X.prog Z.X.w).den (.forLoop tg (.ref it) body [] Z.env))
        (.ret (fun r => ((match r with | .ok f => (.pure f : Sem Flow) | .error e => .raise e).onRaise (cameBack Z.env)).wrap K J gd lv) none (gd false) (lv []) c p [] :: fs) s := by
    intro m
    induction m using Nat.strongRecOn with
    | ind m ih =>
      intro i n s₀ s γ σ H w ⟨s0, H0, hl, I, J1⟩ st fr
      refine seg_forLoop rfl ?_
      rw [(gl _).over]
      rcases turn i m n γ σ H w with ⟨stop, qn⟩ | ⟨go, N, hN, step⟩
      · refine wpAny_mono (T.done (Z.cx s0 H0) rfl rfl rfl rfl i ip s σ H (fun _ _ => False) J1 (stat hl fr) st stop) (fun r s4 ⟨hr, J4⟩ => ?_) fun _ _ hx => hx
        subst hr
        refine seg_again rfl ?_
        show Seg _ _ _ _ _ _ _ (.pure (.done .next)) _ _
        exact seg_leaf (.ok .next) (k n s₀ s4 .next ⟨γ, σ, H, ⟨s0, H0, hl, I, J4⟩, qn⟩)
      · refine wpAny_mono (T.item (Z.cx s0 H0) rfl rfl rfl rfl i ip s σ H (fun _ _ => False) J1 (stat hl fr) st go) (fun r s4 ⟨u, hr, h4⟩ => ?_) fun _ _ hx => hx
        subst hr
        refine wpAny_mono h4 (fun _ s5 ⟨x, H5, J5, r5, y5, st5, fr5⟩ => ?_) fun _ _ hx => hx
        have J5' := J5.pinned (stat hl fr5) (T.obj _ _ st5)
        refine wpAny_mono ((hg s0 H0).run _ s5 σ H5 x u _ J5' r5 (step x H5 y5)) (fun _ s6 ⟨σ6, H6, J6, q6⟩ => ?_) fun _ _ hx => hx
        have gl5 := fun (kk : Result → Sem PySem.Fin) => gcy_loop (k := kk) (c' := .forLoop tg (.ref it) body [] Z.env) (l := lv []) (kp := []) (p := p) { g with io := io' st5 } rfl rfl
        have again : ∀ {n' : Nat} {s₀' s7 : Shared} {γ7 σ7 : St} {H7 : Hp}, GIY Z (ip ++ pinsAt fp s5.heap) γ7 σ7 H7 s7 → N n' γ7 σ7 H7 → Seg (model Z.X.prog Z.X.w) Z.A R (YY Z D.yd) n' s₀' (.forLoop tg (.ref it) body [] Z.env) (.pure (.again (.forLoop tg (.ref it) body [] Z.env)))
            (.ret (fun r => ((match r with | .ok f => (.pure f : Sem Flow) | .error e => .raise e).onRaise (cameBack Z.env)).wrap K J gd lv) none (gd false) (lv []) c p [] :: fs) s7 := fun {n' s₀' s7 γ7 σ7 H7} ⟨s0', H0', hl', I7, J7⟩ n7 => by
          obtain ⟨m', hm, w7⟩ := hN n' γ7 σ7 H7 n7
          have at7 : ∀ b ∈ fp, ∀ o, s5.heap.get? b = some o → s7.heap.get? b = some o ∧ H7 b = none := fun b hb o e => by
            obtain ⟨q1, q2, _⟩ := J7.pin (b, o) (List.mem_append_right _ (List.mem_append_right _ (mem_pinsAt hb e)))
            exact ⟨q1, q2⟩
          refine seg_again rfl (ih m' hm (i + 1) n' s₀' s7 γ7 σ7 H7 w7 ⟨s0', H0', hl', I7, J7.unpinned⟩ (T.keep _ _ _ st5 fun b hb o e => (at7 b hb o e).1) fun b hb => ?_)
          obtain ⟨o, e, _⟩ := T.obj _ _ st5 b hb
          exact (at7 b hb o e).2
        have un7 : ∀ {γ7 σ7 : St} {H7 : Hp} {s7 : Shared}, GIY Z (ip ++ pinsAt fp s5.heap) γ7 σ7 H7 s7 → GIY Z ip γ7 σ7 H7 s7 := fun ⟨s0', H0', hl', I7, J7⟩ => ⟨s0', H0', hl', I7, J7.unpinned⟩
        refine hb.run (ip ++ pinsAt fp s5.heap) R n s₀ _ _ _ _ id id s6 γ σ6 H6 { D with nx := N, ct := N, bk := D.nx } (gl5 _) (fun n' s₀' s7 f hs => ?_) ⟨s0, H0, hl, I, J6⟩ q6
        cases f with
        | next => obtain ⟨γ7, σ7, H7, I7, n7⟩ := hs; exact again I7 n7
        | cont => obtain ⟨γ7, σ7, H7, I7, n7⟩ := hs; exact again I7 n7
        | brk => obtain ⟨γ7, σ7, H7, I7, n7⟩ := hs; exact seg_leaf (.ok .next) (k n' s₀' s7 .next ⟨γ7, σ7, H7, un7 I7, n7⟩)
        | ret v => obtain ⟨x7, γ7, σ7, H7, I7, r7, n7⟩ := hs; exact seg_leaf (.ok (.ret v)) (k n' s₀' s7 (.ret v) ⟨x7, γ7, σ7, H7, un7 I7, r7, n7⟩)
  exact loop m0 0 n s₀ s2 γ σ H2 w0 ⟨s0, H0, hl, I, I2⟩ st2 fun b hb => (f2 b hb).1
end
end L2

/-! ## DGd -/
/-! A loop that walks a generator. -/
namespace L2
open PySem PySem.Spec PyProof.Rows GenW

theorem wpAny_letGo_gen {prog : Program} {w : World} {A : Around} {E : Value → Shared → Prop} {s : Shared} {tg : Expr} {a : Addr} {g : Nat} {v : Value} {Q : Unit → Shared → Prop} (hg : s.heap.IsGen a g) (h : Q () s) :
    wpAny (model prog w) A (letOwnedTupleGo tg (.ref a) v) Q E s := by
  obtain ⟨o, nm, qn, ho, hc, hd, _⟩ := hg
  unfold letOwnedTupleGo
  split
  all_goals first
    | exact wpAny_pure h
    | (split
       · next r a' hra =>
         have hr : (Value.ref a) = .ref r := congrArg Prod.fst hra
         cases hr
         refine wpAny_bind (wpAny_load ho ?_)
         rw [hc, hd]
         exact wpAny_pure h
       · exact wpAny_pure h)
section
variable {X : Cx} {pins : List (Addr × Obj)} {σ : St} {H : Hp} {s s' : Shared}
/-- the table of generators is free -/
theorem Inv.gens (I : Inv X pins σ H s) {g : Array GenState} (hg : AllBare g) : Inv X pins σ H { s with gens := g } :=
  ⟨I.ok, I.os, hg, I.base, I.loc, I.cell, I.free, I.freeC, I.pin, I.hok, I.len⟩
theorem bare_deaf (h : AllBare s.gens) : AllBare (Slp.deaf s).gens := fun y hy => by
  have hy : y ∈ s.gens.map Slp.stf := hy
  obtain ⟨z, hz, rfl⟩ := Array.mem_map.mp hy
  rw [Slp.stf_bare]; exact h z hz
theorem Inv.deaf (I : Inv X pins σ H s) : Inv X pins σ H (Slp.deaf s) := I.gens (bare_deaf I.bare)
theorem bare_still (h : AllBare s.gens) (st : Slp.Still s s') {g : Array GenState} (hs : g.size = s'.gens.size) (hf : ∀ i : Nat, ¬ Slp.Fz s.gens i → s'.gens[i]? = g[i]?) (hg : AllBare g) : AllBare s'.gens := fun y hy => by
  obtain ⟨i, hi, e⟩ := Array.mem_iff_getElem.mp hy
  have e' : s'.gens[i]? = some y := by rw [Array.getElem?_eq_getElem hi, e]
  by_cases hz : Slp.Fz s.gens i
  · obtain ⟨z, e1, e2⟩ := hz
    rw [st i z e1 e2] at e'
    cases e'
    exact h _ (Array.mem_of_getElem? e1)
  · rw [hf i hz] at e'
    exact hg _ (Array.mem_of_getElem? e')
/-- what is wanted of an exception does not look at the table -/
def XFree (X : Cx) : Prop := ∀ e (s s' : Shared), AllBare s.gens → (Slp.Still s s' ∧ ∃ g : Array GenState, g.size = s'.gens.size ∧ (∀ i : Nat, ¬ Slp.Fz s.gens i → s'.gens[i]? = g[i]?) ∧ X.xe e { s' with gens := g }) → X.xe e s'
theorem XFree.never {X : Cx} : XFree X.nox := fun _ _ _ _ ⟨_, _, _, _, h⟩ => h.elim
end
/-- what a generator def will do, from a heap: how many items may come, the walker's slots, the heap; what is made of an item; the end -/
abbrev GSpec := Nat → St → Hp → YD → (Nat → St → Hp → Prop) → Prop
abbrev TGY := St → Hp → (GSpec → Hp → Prop) → Prop
/-- u is a generator that has not begun -/
def GMadeY (X : Cx) (pins : List (Addr × Obj)) (γ : St) (H : Hp) (S : GSpec) (u : Value) (s' : Shared) : Prop :=
  ∃ (Z : Gy) (g : Nat) (c : Code), Z.X = X ∧ Z.cp = pins ∧ Z.A = X.A.in1 ∧ u = .ref Z.a ∧ s'.heap.IsGen Z.a g ∧ s'.gens[g]? = some (.fresh c) ∧ Inv X pins γ H s' ∧
    (∀ h : Heap, h.get? Z.a = some Z.go → h.IsGen Z.a g) ∧
    ∀ n yd fin (s2 : Shared), S n γ H yd fin → s2.heap = s'.heap → Inv X pins γ H s2 → Seg (model X.prog X.w) Z.A (RY Z fin) (YY Z yd) n s2 c ((model X.prog X.w).den c) [] s2
structure PGY (X : Cx) (e : Expr) (t : TGY) : Prop where
  run : ∀ (pins : List (Addr × Obj)) (s : Shared) (σ : St) (H : Hp) (Q : GSpec → Hp → Prop), Inv X pins σ H s → t σ H Q →
    wpAny (model X.prog X.w) X.A (eval e X.env) (fun u s' => ∃ S H1, GMadeY X pins σ H1 S u s' ∧ Q S H1) X.xe s
def tForY (t : TGY) (g : TG) (tb : TS) : TS := fun D σ H => t σ H fun S H1 => ∃ n yd fin, S n σ H1 yd fin ∧
  (∀ m x γ H k, yd m x γ H k → ∀ F, NoneOn F H → g x γ (frzF F H) fun σ2 H2 => tb { D with nx := fun σ3 H3 => FrzIn F H3 ∧ k σ3 (unF F H3), ct := fun σ3 H3 => FrzIn F H3 ∧ k σ3 (unF F H3), bk := D.nx } σ2 H2) ∧
  ∀ m γ H, fin m γ H → D.nx γ H
section
variable {X : Cx}
theorem ps_forY {tg e : Expr} {body : List Stmt} {t : TGY} {g : TG} {tb : TS} {pos : Pos} (hp : PassesOwn (model X.prog X.w) X.A X.env X.xe) (hc : X.calm = true) (hx : XFree X) (hroom : X.A.depth < recursionLimit) (hi : PGY X e t) (hg : PG X tg g) (hb : PSs X body tb)
    (hs : ∀ x, foldedSetIterable e X.env x = pure x := by intro _; rfl) : PS X (.For tg e body [] pos) (tForY t g tb) := by
  refine ⟨fun pins s σ H D I h => ?_⟩
  refine wpAny_For (thn (hi.run pins s σ H _ I h) fun v s1 h1 => ?_) hs
  obtain ⟨S, H1, ⟨Z, gi, c, hZX, hZp, hZA, rfl, hgen, hfr, I1, hgo, start⟩, n0, yd, fin, hS, hyd, hfin⟩ := h1
  subst hZX hZp
  refine wpAny_pyIter_gen hgen ?_
  have hh : Z.X.A.handled = none := I1.ok.hd hc
  have goes : ∀ {gs : GenState} {n : Nat} {r : Resume} {s : Shared}, gs.Goes (model Z.X.prog Z.X.w) Z.A (RY Z fin) (YY Z yd) n r s →
      gs.Goes (model Z.X.prog Z.X.w) Z.X.A.in1 (fun n s₀ r s1 => ((r = .ok (.ret .none) ∨ r = .ok .next) ∧ ∃ γ H, Inv Z.X Z.cp γ H s1 ∧ fin n γ H) ∨ ∃ e, r = .error e ∧ False) (YY Z yd) n r s := fun h => by
    rw [← hZA]; exact h
  refine codeAny_forLoop_any (fun n s' => ∃ γ H gs, Inv Z.X Z.cp γ H s' ∧ s'.heap.IsGen Z.a gi ∧ s'.gens[gi]? = some gs ∧ gs.Goes (model Z.X.prog Z.X.w) Z.A (RY Z fin) (YY Z yd) n (.send .none) (s'.setGen gi .running)) ?_ n0
    ⟨σ, H1, _, I1, hgen, hfr, rfl, start n0 yd fin _ hS rfl (I1.gens (allBare_setGen I1.bare rfl))⟩
  rintro n s3 ⟨γ, H3, gs, I3, hg3, hgs, hgs2⟩
  have hgl : gi < s3.gens.size := (Array.getElem?_eq_some_iff.mp hgs).1
  refine wpAny_gsz (n := gi + 1) hgl (next_genG (A := Z.X.A) (Er := fun _ _ => False) hh I3.nolimit hroom hg3 hgs (goes hgs2) (fun v s₁ gs' hbare hv => ?_) (fun s₁ hp' h' hk => ?_) fun e s₁ he => he.elim)
  · intro hsz
    obtain ⟨x, γ1, Hy, F, k, rv, I4, nF, fo, hFa, hy, hk⟩ := hv
    have hsz1 : gi < (s₁.setGen gi gs').gens.size := hsz
    have hga : (s₁.setGen gi gs').gens[gi]? = some gs' := setGen_at (by rw [setGen_size] at hsz1; exact hsz1)
    have I5 : Inv Z.X Z.cp γ1 (frzF F Hy) (s₁.setGen gi gs') := I4.gens (allBare_setGen I4.bare hbare)
    have at5 := (I5.awake fo frzF_in).2
    have hgen5 : (s₁.setGen gi gs').heap.IsGen Z.a gi := hgo _ (at5 Z.a Z.go hFa)
    refine wpAny_letGo_gen hgen5 ?_
    refine wpAny_passesOwn hp (wpAny_mono (Slp.wpAny_still (hg.run _ _ γ1 _ x v _ I5.deaf rv (hyd _ x γ1 Hy k hy F nF))) (fun _ s6 h6 => ?_) fun e s6 h6 => hx e _ _ I5.bare h6)
    obtain ⟨st6, g6, z1, z2, σ6, H6, I6, q6⟩ := h6
    have I6' : Inv Z.X Z.cp σ6 H6 s6 := I6.gens (g := s6.gens) (bare_still I5.bare st6 z1 z2 I6.bare)
    refine wpAny_passesOwn hp (wpAny_mono (Slp.wpAny_still (hb.run _ _ σ6 H6 _ I6'.deaf q6)) (fun f s7 h7 => ?_) fun e s7 h7 => hx e _ _ I6'.bare h7)
    obtain ⟨st7, g7, y1, y2, q7⟩ := h7
    have back : ∀ {σ7 : St} {H7 : Hp}, Inv Z.X Z.cp σ7 H7 { s7 with gens := g7 } → Inv Z.X Z.cp σ7 H7 s7 := fun {σ7 H7} I7 => I7.gens (g := s7.gens) (bare_still I6'.bare st7 y1 y2 I7.bare)
    have again : ∀ {σ7 : St} {H7 : Hp}, Inv Z.X Z.cp σ7 H7 { s7 with gens := g7 } → FrzIn F H7 → k σ7 (unF F H7) → ∃ m, m < n ∧ ∃ γ H gs, Inv Z.X Z.cp γ H s7 ∧ s7.heap.IsGen Z.a gi ∧ s7.gens[gi]? = some gs ∧ gs.Goes (model Z.X.prog Z.X.w) Z.A (RY Z fin) (YY Z yd) m (.send .none) (s7.setGen gi .running) := fun {σ7 H7} I7 i7 k7 => by
      have I7' := back I7
      have at7 := (I7'.awake fo i7).2
      obtain ⟨kk1, kk2⟩ := hk σ7 H7 (s7.setGen gi .running) (I7'.gens (allBare_setGen I7'.bare rfl)) i7 k7
      cases n with
      | zero => exact kk1.elim
      | succ m =>
        refine ⟨m, Nat.lt_succ_self m, σ7, H7, gs', I7', hgo _ (at7 Z.a Z.go hFa), ?_, by rw [hZA]; exact kk1⟩
        cases gs' with
        | suspended k0 l0 c0 p0 fs0 cl => exact st7 gi _ (st6 gi _ hga rfl) rfl
        | fresh c => exact absurd kk2.1 (by intro z; cases z)
        | running => exact kk2.elim
        | finished => exact kk2.elim
    cases f with
    | next => obtain ⟨σ7, H7, I7, i7, k7⟩ := q7; exact again I7 i7 k7
    | cont => obtain ⟨σ7, H7, I7, i7, k7⟩ := q7; exact again I7 i7 k7
    | brk => obtain ⟨σ7, H7, I7, q⟩ := q7; exact ⟨σ7, H7, back I7, q⟩
    | ret u => obtain ⟨x7, σ7, H7, I7, r7, q⟩ := q7; exact ⟨x7, σ7, H7, back I7, r7, q⟩
  · intro hsz
    obtain ⟨γ1, H4, I4, hf⟩ := hp'
    refine wpAny_execs_nil ?_
    have I5 : Inv Z.X Z.cp γ1 H4 (s₁.setGen gi .finished) := I4.gens (allBare_setGen I4.bare rfl)
    exact ⟨γ1, H4, I5.call' (s' := { s₁.setGen gi .finished with heap := h' }) (ch := []) rfl (Un.kept hk) (I5.hok.kept hk) I5.bare (fun _ z => nomatch z), hfin _ _ _ hf⟩
end
end L2

/-! ## DGe -/
/-! A generator def that a loop walks: its call. -/
namespace L2
open PySem PySem.Spec PyProof.Rows GenW

abbrev Cx.of (X : Cx) (P : Program) (w : World) (K : PySem.W.Frag) (mg : Str → Option Value) (base : Heap) : Cx := { X with prog := P, w := w, K := K, mg := mg, base := base }
/-- the frame of a generator def that X has called -/
def gyOf (P : Program) (w : World) (K : PySem.W.Frag) (mg : Str → Option Value) (base : Heap) (X : Cx) (cp : List (Addr × Obj)) (N : List Str) (qual : Str) (scope : Scope) (L f : Addr) (cd : Value) (a : Addr) (go : Obj) : Gy where
  X := X.of P w K mg base
  cp := cp
  N := N
  env := envOfC qual scope L f cd
  A := X.A.in1
  a := a
  go := go
structure GFnY (P : Program) (w : World) (K : PySem.W.Frag) (mg : Str → Option Value) (base : Heap) (k : Nat) (f : Addr) (fd : FuncData) (ps : List Str) (sp : List V → GSpec) : Prop where
  len : ∀ vs n γ H yd fin, sp vs n γ H yd fin → vs.length = ps.length
  run : ∀ (X : Cx) (pins : List (Addr × Obj)) (γ : St) (H : Hp) (s : Shared) (args : Args) (us : List Value) (vs : List V), vs.length = ps.length → Room k X.A → Inv (X.of P w K mg base) pins γ H s → BindsTo s fd args (ps.zip us) → Vals vs us →
    codeAny (model P w) X.A (.call (.ref f) args) (fun r s' => match r with | .ok (.ret u) => GMadeY (X.of P w K mg base) pins γ H (sp vs) u s' | _ => False) s
theorem Room.woken {k : Nat} {A : Around} (r : Room (k + 1) A) (env : Env) : Room k (A.in1.deeper env) :=
  ⟨r.hd, by have := r.dp; show A.depth + 1 + 3 * k + 5 < _; omega, by have := r.un; show A.units + 1 + 3 + 16 * k + 200 < _; omega⟩
theorem gfny_of {P : Program} {w : World} {K : PySem.W.Frag} {mg : Str → Option Value} {base : Heap} {k : Nat} {f : Addr} {name qual : Str} {params : Arguments} {body : List Stmt} {scope : Scope} {dV kV doc pm cdv ct oc : Value} {an od : Option Addr}
    {osl : Array (Option Value)} {N ps : List Str} {sp : List V → GSpec} (lk : K.lookup f = some ⟨oc, od, .func (PySem.W.fnOf name qual params body scope dV kV doc pm an cdv ct), osl⟩) (hcd : PySem.W.codeIn K cdv qual = true) (S : GScope N ps scope)
    (len : ∀ vs n γ H yd fin, sp vs n γ H yd fin → vs.length = ps.length)
    (hbody : ∀ (X : Cx) (cp : List (Addr × Obj)) (L a : Addr) (go : Obj), Room k (X.A.in1.deeper (envOfC qual scope L f cdv)) →
      ∃ t, GSYs (gyOf P w K mg base X cp N qual scope L f cdv a go) body t ∧ ∀ vs n γ H yd fin, sp vs n γ H yd fin → t { yd := yd, nx := fun n γ _ H => fin n γ H, rt := fun n γ v H => v = .non ∧ fin n γ H } n γ (start N vs) H) :
    GFnY P w K mg base (k + 1) f (PySem.W.fnOf name qual params body scope dV kV doc pm an cdv ct) ps sp := by
  refine ⟨len, fun X pins γ H s args us vs hl hr I hb r => ?_⟩
  have e0 : Env0 P w K mg base X.A X.stack s H := I.env0
  have e0' : Env0 P w K mg base X.A.in1 X.stack s H := ⟨e0.frames, e0.mod, e0.bs, e0.bsz, e0.funs, e0.frf, e0.hok, e0.bare⟩
  have KX : K.In s.heap := e0.mod.kin.keeps fun b o e => (e0.bs b o e).1
  have lim : s.heap.NoLimit := e0.mod.nolimit.keeps fun b o e => (e0.bs b o e).1
  have hkind : ∀ y ∈ ps.zip us, scope.names.lookup y.1 = some .local ∨ (scope.names.lookup y.1 = some .cell ∧ ((cellsFrom (s.heap.objs.size + 1) scope.names []).lookup y.1).isSome = true) := fun ⟨n, v⟩ hy => by
    rcases S.par n (List.of_mem_zip hy).1 with q | q
    · exact .inl q
    · exact .inr ⟨q, PySem.W.cellsFrom_some _ _ _ (.inl q)⟩
  refine codeAny_call_generator hr.depth (KX _ _ lk) rfl S.co S.gen rfl (PySem.W.codeRec_of KX hcd) (hb _ _ _ _ ?_)
  refine wpAny_newFunctionEnv_cells S.kind hkind fun env he s1 x => ?_
  subst he
  have lim1 : s1.heap.NoLimit := lim.keeps x.toInCall.keep
  refine ⟨lim1, ?_⟩
  obtain ⟨h1, tk, es1, hk1⟩ := x.done
  have os1 : s1.os = s.os := by rw [es1]
  have gen1 : s1.gens = s.gens := by rw [es1]
  have lt1 : s.heap.objs.size < s1.heap.objs.size := x.toInCall.ns.lt
  have kp1 : ∀ b o, s.heap.get? b = some o → s1.heap.get? b = some o := x.toInCall.keep
  have main : ∀ (go : Obj) (nm qn : Value) (tk2 : Nat), go.cls = .type "generator" → go.data = .fields #[.int s1.gens.size 0, nm, qn] → go.slots = #[] → (∀ h : Heap, (h.push go).get? h.objs.size = some go) →
      GMadeY (X.of P w K mg base) pins γ H (sp vs) (.ref s1.heap.objs.size) { s1 with gens := s1.gens.push (.fresh (.func body (envOfC qual scope s.heap.objs.size f cdv))), toks := tk2, heap := s1.heap.push go } := by
    intro go nm qn tk2 hgc hgd0 hgs hgp
    have hgen : ∀ h : Heap, h.get? s1.heap.objs.size = some go → h.IsGen s1.heap.objs.size s1.gens.size := fun h e => ⟨go, nm, qn, e, hgc, hgd0, hgs⟩
    have hpushed : (s1.heap.push go).get? s1.heap.objs.size = some go := hgp _
    have kp2 : ∀ b o, s1.heap.get? b = some o → (s1.heap.push go).get? b = some o := fun b o e => Heap.get?_push_of_some _ e
    have kp : ∀ b o, s.heap.get? b = some o → (s1.heap.push go).get? b = some o := fun b o e => kp2 b o (kp1 b o e)
    have I1 : Inv (gcxOf P w K mg base N qual scope f cdv X.A.in1 X.stack s H (fun _ _ _ => False) []) [] (start N vs) H s1 := inv_startG S (show X.A.in1.handled = none from hr.hd) e0' hl r x
    have lt : ∀ b o, s.heap.get? b = some o → b < s.heap.objs.size := fun b o e => Heap.lt_size e
    have cab : ∀ y c, (cellsFrom (s.heap.objs.size + 1) scope.names []).lookup y = some c → s.heap.objs.size < c := fun y c e => x.above y c (PySem.mem_of_lookup e)
    have clt : ∀ y c, (cellsFrom (s.heap.objs.size + 1) scope.names []).lookup y = some c → c < s1.heap.objs.size := fun y c e => by
      obtain ⟨v, ob, ho, _⟩ := I1.cell y c e
      exact Heap.lt_size ho
    have zok : (gyOf P w K mg base X pins N qual scope s.heap.objs.size f cdv s1.heap.objs.size go).Ok := {
      kind := S.kind
      glob := rfl
      blt := rfl
      inj := I1.ok.inj
      has := I1.ok.has
      cab := fun y c e => Nat.le_of_lt (cab y c e)
      hd := hr.hd
      frames := Around.frames_deeper e0'.frames
      frame := rfl
      bsz := e0.bsz
      frs := fun b hb => by
        obtain ⟨_, o, ho, _⟩ := e0.funs.mem hb
        exact lt b o ho
      loc := I.lt
      old := I.sz
      xcell := fun y c e => by
        obtain ⟨v, o, ho, _⟩ := I.cell y c e
        exact lt c o ho
      a1 := Nat.le_of_lt lt1
      a2 := Nat.ne_of_gt lt1
      a3 := fun y c e => Nat.ne_of_lt (clt y c e)
      god := fun v q => by
        have q : go.data = .cell v := q
        rw [hgd0] at q; cases q
      pin := fun p hp => by
        have hlt := lt p.1 p.2 (I.pin p hp).1
        exact ⟨Nat.ne_of_lt hlt, fun y c e => Nat.ne_of_gt (Nat.lt_trans hlt (cab y c e)), Nat.ne_of_lt (Nat.lt_trans hlt lt1)⟩
      plain := fun b hb => by
        have hn : H b = none := I.hok.fresh hb
        refine ⟨fun xs e => ?_, fun o u e => ?_, fun qs e => ?_⟩
        · have := I.base.tups b xs e; rw [hn] at this; cases this
        · have := I.base.frzs b o u e; rw [hn] at this; cases this
        · obtain ⟨m, this⟩ := I.base.tbls b qs e; rw [hn] at this; cases this }
    have io : IpOk (gyOf P w K mg base X pins N qual scope s.heap.objs.size f cdv s1.heap.objs.size go) [] := fun p hp => nomatch hp
    refine ⟨gyOf P w K mg base X pins N qual scope s.heap.objs.size f cdv s1.heap.objs.size go, s1.gens.size, _, rfl, rfl, rfl, rfl, hgen _ hpushed, Array.getElem?_push_size .., ?_, hgen, fun n yd fin s2 hsp hh2 I2 => ?_⟩
    · exact I.call' (ch := []) os1 (Un.kept kp) (I.hok.kept kp) (AllBare.push (by rw [gen1]; exact e0.bare) rfl) fun b z => by simp at z
    have k2 : ∀ b o, s1.heap.get? b = some o → s2.heap.get? b = some o := fun b o e => by rw [hh2]; exact kp2 b o e
    obtain ⟨t, ht, hq⟩ := hbody X pins s.heap.objs.size s1.heap.objs.size go (hr.woken _)
    have fr : Frm (gyOf P w K mg base X pins N qual scope s.heap.objs.size f cdv s1.heap.objs.size go) [] (start N vs) s2 := by
      obtain ⟨m, hn, hlk⟩ := I1.loc
      refine ⟨⟨m, hn.at' fun o e => k2 _ o e, fun i y v h1 h2 h3 => ?_⟩, fun y c e => ?_, ?_, (fun p hp => nomatch hp), I1.len⟩
      · obtain ⟨u, r, l⟩ := hlk i y v h1 h2 h3
        refine ⟨u, r, ?_⟩
        rcases l with l | ⟨kk, c, e, z⟩
        · exact .inl l
        · exact .inr ⟨kk, c, e, z.keeps k2⟩
      · obtain ⟨v, z⟩ := I1.cell y c e
        exact ⟨v, z.keeps k2⟩
      · show s2.heap.get? s1.heap.objs.size = some go
        rw [hh2]; exact hpushed
    have nn : ∀ b, (gyOf P w K mg base X pins N qual scope s.heap.objs.size f cdv s1.heap.objs.size go).Its [] b → H b = none := fun b hb => I.hok.fresh (Gy.its_young zok io hb)
    have hL : s.heap.objs.size ≤ s2.heap.objs.size := let ⟨_, hn, _⟩ := fr.loc; Nat.le_of_lt hn.lt
    refine seg_func ?_
    refine ht.run [] _ n s2 _ [] _ _ id id s2 γ (start N vs) H { yd := yd, nx := fun n γ _ H => fin n γ H, rt := fun n γ v H => v = .non ∧ fin n γ H } ⟨zok, io, over_func, rfl, rfl, rfl⟩ (fun n' s₀' s' fl hs => ?_) ⟨s2, H, hL, I2, Gy.enter zok io fr I2 nn⟩ (hq _ _ _ _ _ _ hsp)
    cases fl with
    | next =>
      obtain ⟨γ', σ', H', ⟨s0, H0, _, I0, J0⟩, q⟩ := hs
      exact seg_end (.ok (.ret .none)) (.inl ⟨.inl rfl, γ', H', Gy.back zok I0 J0, q⟩)
    | brk => obtain ⟨_, _, _, _, q⟩ := hs; exact False.elim q
    | cont => obtain ⟨_, _, _, _, q⟩ := hs; exact False.elim q
    | ret u =>
      obtain ⟨v, γ', σ', H', ⟨s0, H0, _, I0, J0⟩, rv, ev, q⟩ := hs
      subst ev
      have eu : u = Value.none := rv
      subst eu
      exact seg_end (.ok (.ret .none)) (.inl ⟨.inl rfl, γ', H', Gy.back zok I0 J0, q⟩)
  exact main _ _ _ _ rfl rfl rfl fun h => Heap.get?_push_size _ rfl
/-- the call g(e, ..) -/
def tCallY (np : Nat) (sp : List V → GSpec) (dvs : List V) (ta : TA) : TGY := fun σ H Q => ta σ H fun vs H1 => (vs ++ dvs).length = np ∧ Q (sp (vs ++ dvs)) H1
section
variable {X : Cx} {k : Nat} {f : Addr} {fd : FuncData} {ps : List Str} {sp : List V → GSpec} {dvs : List V} {ds : List Value} {x : Str} {p pos : Pos}
theorem pgy_call {np : Nat} {e : Expr} {es : List Expr} {t : TA} (F : GFnY X.prog X.w X.K X.mg X.base k f fd ps sp) (hr : Room k X.A) (hg : Gl X x) (hm : X.mg x = some (.ref f)) (hk : PySem.W.keepIn X.K (.ref f) = true) (hb : Binds X.K fd ps ds) (hd : Vals dvs ds)
    (ha : PA X (e :: es) t) (hlen : ps.length = np) (hdb : (x == ("__debug__" : Str)) = false := by decide) (he : starEach (e :: es) X.env = (false, eval e X.env) :: starEach es X.env := by rfl) (hpl : (backTo pos (starEach es X.env)).any (·.1) = false := by rfl) :
    PGY X (.Call (.Name x p) (e :: es) [] pos) (tCallY np sp dvs t) := by
  refine ⟨fun pins s σ H Q I h => ?_⟩
  refine wpAny_Call_Name_kw (ld_glob I hg hm ?_ hdb)
  refine PySem.W.callWith_K (h₀ := X.base) I.ok.mod.kin hk (thn (ha.run pos pins s σ H _ I h) fun us s1 ⟨vs, H1, I1, r, hvl, q⟩ => ⟨I1.kIn, ?_⟩) he hpl
  have r2 : Vals (vs ++ dvs) (us ++ ds) := r.append hd
  have hl1 : (vs ++ dvs).length = ps.length := by rw [hlen]; exact hvl
  have hl2 : (us ++ ds).length = ps.length := by rw [← r2.length]; exact hl1
  refine wpAny_call (codeAny_mono (F.run X pins σ H1 s1 ⟨us, []⟩ (us ++ ds) (vs ++ dvs) hl1 hr I1 (hb s1 us I1.kIn hl2) r2) fun r s' hq => ?_)
  cases r with
  | error e => exact False.elim hq
  | ok fl =>
    cases fl with
    | ret u => exact ⟨_, H1, hq, q⟩
    | next => exact False.elim hq
    | brk => exact False.elim hq
    | cont => exact False.elim hq
end
end L2

/-! ## DGf -/
/-! Generators over data. -/
namespace DL
open PySem L2
abbrev MY := M (List D × Fl)
def yP (f : M Fl) : MY := bnd f fun fl => ret ([], fl)
def y0 : MY := ret ([], .nx)
def yK (g : MY) (os : List D) : Fl → MY
  | .nx => bnd g fun r => ret (os ++ r.1, r.2)
  | fl => ret (os, fl)
def ySeq (f g : MY) : MY := bnd f fun r => yK g r.1 r.2
def yYield (e : M D) : MY := bnd e fun d => ret ([d], .nx)
def yIf (c : M Bool) (f g : MY) : MY := bnd c fun b => if b = true then f else g
def yForK (k : MY) (fg : List Nat) (os : List D) : Fl → MY
  | .nx => fun s => bnd k (fun r => ret (os ++ r.1, r.2)) (clr fg s)
  | .ct => fun s => bnd k (fun r => ret (os ++ r.1, r.2)) (clr fg s)
  | .bk => ret (os, .nx)
  | .rt d => ret (os, .rt d)
def yForL (tg : D → M Fl) (fg : List Nat) (body : MY) : List D → MY
  | [] => y0
  | d :: ds => bnd (tg d) fun _ => bnd body fun r => yForK (yForL tg fg body ds) fg r.1 r.2
def yFor (fi : M (List D)) (tg : D → M Fl) (fg : List Nat) (body : MY) : MY := bnd fi (yForL tg fg body)

/-- the one that walks, where it wakes the generator: the items so far, its slots, what may not come into the generator's base, the generator's own things at its last sleep, the heap -/
structure Gst where
  os : List D
  γ : St
  C : Addr → Prop
  Pr : Addr → Prop
  Hr : Hp
/-- the generator has run since -/
structure TurnR (q : Gst) (s : Sl) (σ : St) (B H : Hp) : Prop where
  keep : ∀ a o, q.Hr a = some o → ¬ q.Pr a → H a = some o
  dom : ∀ a, q.Hr a ≠ none → H a ≠ none
  own : ∀ a, OwnS s σ a → q.Pr a ∨ q.Hr a = none
  bas : ∀ a, B a ≠ none → ¬ q.C a
  cP : ∀ a, q.C a → ¬ q.Pr a
  cH : ∀ a, q.C a → q.Hr a ≠ none
/-- what the one that walks does with an item -/
def HY (G : Tb) (J : Gst → Prop) (yd : YD) (ds : List D) : Prop :=
  ∀ (q : Gst) (d : D) (rest : List D) (x : V) (B1 H1 : Hp) (Pr1 : Addr → Prop) (k : St → Hp → Prop), J q → ds = q.os ++ d :: rest →
    (∀ a o, q.Hr a = some o → ¬ q.Pr a → H1 a = some o) → (∀ a, q.Hr a ≠ none → H1 a ≠ none) → RD G B1 d x → Ex B1 H1 → (∀ a, B1 a ≠ none → ¬ q.C a ∧ ¬ Pr1 a) → (∀ a, Pr1 a → H1 a ≠ none ∧ (q.Pr a ∨ q.Hr a = none)) →
    (∀ q' : Gst, J q' → q'.os = q.os ++ [d] → q'.Pr = Pr1 → (∀ a o, H1 a = some o → ¬ q.C a → q'.Hr a = some o) → (∀ a, H1 a ≠ none → q'.Hr a ≠ none) → (∀ a, q'.C a → (q.C a ∨ H1 a = none) ∧ q'.Hr a ≠ none) → k q'.γ q'.Hr) →
    yd rest.length x q.γ H1 k
def PostY (G : Tb) (Dd : YEnds) : Fl → Nat → St → St → Hp → Hp → Prop
  | .nx, n, γ, σ, _, H => Dd.nx n γ σ H
  | .bk, n, γ, σ, _, H => Dd.bk n γ σ H
  | .ct, n, γ, σ, _, H => Dd.ct n γ σ H
  | .rt d, n, γ, _, B, H => ∀ v, RD G B d v → Dd.rt n γ v H
def SndY (G : Tb) (t : TY) (f : MY) : Prop := ∀ s σ B H outs fl s', Rep G s σ B H → f s = .ok (outs, fl) s' →
  ∀ (Dd : YEnds) (J : Gst → Prop) (ds rest : List D) (q : Gst), J q → TurnR q s σ B H → ds = q.os ++ (outs ++ rest) → HY G J Dd.yd ds →
    (∀ σ' B' H' q', J q' → q'.os = q.os ++ outs → TurnR q' s' σ' B' H' → Rep G s' σ' B' H' → Ex B B' → PostY G Dd fl rest.length q'.γ σ' B' H') →
    t Dd (outs ++ rest).length q.γ σ H
section
variable {G : Tb} {W : WX} {fx : List Nat} {q : Gst} {s s1 : Sl} {σ σ1 : St} {B H B1 H1 : Hp}
theorem TurnR.step (r : TurnR q s σ B H) (g : GrS fx s σ B H s1 σ1 B1 H1) : TurnR q s1 σ1 B1 H1 := by
  have hn : ∀ a, H a = none → q.Hr a = none := fun a h => Classical.byContradiction fun z => r.dom a z h
  refine ⟨fun a o e n => g.keep a o (r.keep a o e n) fun z => ?_, fun a h => g.dom a (r.dom a h), fun a h => ?_, fun a h c => ?_, r.cP, r.cH⟩
  · rcases r.own a z with y | y
    · exact n y
    · rw [y] at e; cases e
  · rcases g.own a h with z | z
    · exact r.own a z
    · exact .inr (hn a z)
  · rcases g.new a h with z | z | z
    · exact r.bas a z c
    · exact r.cH a c (hn a z)
    · rcases r.own a z with y | y
      · exact r.cP a c y
      · exact r.cH a c y
theorem own_there (r : Rep G s σ B H) {a : Addr} (h : OwnS s σ a) : B a = none ∧ ∃ d, OwnAt G B H a d := by
  obtain ⟨i, ⟨d, h1⟩, h2⟩ := h
  obtain ⟨a', e, hb, ho⟩ := r.slot i _ h1
  rw [h2] at e
  cases e
  exact ⟨hb, d, ho⟩
theorem OwnAt.has {a : Addr} {d : D} (h : OwnAt G B H a d) : H a ≠ none := by
  cases d with
  | lst ds => obtain ⟨_, e, _⟩ := h; rw [e]; intro z; cases z
  | dct ds => obtain ⟨_, e, _⟩ := h; rw [e]; intro z; cases z
  | obj C ds => obtain ⟨_, _, e, _⟩ := h; rw [e]; intro z; cases z
  | _ => exact h.elim
/-- what the frame needs is kept -/
theorem Rep.other (r : Rep G s σ B H) {H2 : Hp} (k : ∀ a o, H a = some o → (B a ≠ none ∨ OwnS s σ a) → H2 a = some o) : Rep G s σ B H2 := by
  refine ⟨fun a o e => k a o (r.ex a o e) (.inl (by rw [e]; intro z; cases z)), r.len, fun i sl e => ?_, r.sep⟩
  have h := r.slot i sl e
  cases sl with
  | un => trivial
  | sh d => exact h
  | own d =>
    obtain ⟨a, h1, h2, h3⟩ := h
    exact ⟨a, h1, h2, h3.mono (.refl _) fun o e' => k a o e' (.inr ⟨i, ⟨d, e⟩, h1⟩)⟩
theorem sndY_p {t : TS} {f : M Fl} (h : SndS G W fx t f) : SndY G (tYP t) (yP f) := fun s σ B H outs fl s' rep e Dd J ds rest q hJ tr hds hy K => by
  obtain ⟨fl0, s1, e1, e2⟩ := bnd_ok e
  have e2 : Res.ok (([] : List D), fl0) s1 = Res.ok (outs, fl) s' := e2
  injection e2 with e3 e4
  injection e3 with e5 e6
  subst e4 e5 e6
  refine h s σ B H rep (Dd.at rest.length q.γ) (fun fl' s' σ' B' H' e' g r => ?_) (fun x s' σ' dd B' H' e' => by rw [e1] at e'; cases e') fun e' => by rw [e1] at e'; cases e'
  rw [e1] at e'
  cases e'
  have P := K σ' B' H' q hJ (by rw [List.append_nil]) (tr.step g) r g.b
  cases fl0 with
  | nx => exact P
  | bk => exact P
  | ct => exact P
  | rt d => exact P
theorem sndY_0 : SndY G tY0 y0 := fun s σ B H outs fl s' rep e Dd J ds rest q hJ tr hds hy K => by
  have e : Res.ok (([] : List D), Fl.nx) s = Res.ok (outs, fl) s' := e
  injection e with e3 e4
  injection e3 with e5 e6
  subst e4 e5 e6
  exact K σ B H q hJ (by rw [List.append_nil]) tr rep (.refl _)
theorem yK_ok {g : MY} {os outs : List D} {fl fl' : Fl} {s s' : Sl} (e : yK g os fl s = .ok (outs, fl') s') : (fl = .nx ∧ ∃ o2, g s = .ok (o2, fl') s' ∧ outs = os ++ o2) ∨ (fl ≠ .nx ∧ outs = os ∧ fl' = fl ∧ s' = s) := by
  cases fl with
  | nx =>
    obtain ⟨⟨o2, f2⟩, s1, e1, e2⟩ := bnd_ok e
    have e2 : Res.ok (os ++ o2, f2) s1 = Res.ok (outs, fl') s' := e2
    injection e2 with e3 e4
    injection e3 with e5 e6
    subst e4 e5 e6
    exact .inl ⟨rfl, o2, e1, rfl⟩
  | _ =>
    injection e with e3 e4
    injection e3 with e5 e6
    subst e4 e5 e6
    exact .inr ⟨(by intro z; cases z), rfl, rfl, rfl⟩
theorem sndY_seq {t u : TY} {f g : MY} (hf : SndY G t f) (hg : SndY G u g) : SndY G (tYThen t u) (ySeq f g) := fun s σ B H outs fl s' rep e Dd J ds rest q hJ tr hds hy K => by
  obtain ⟨⟨o1, f1⟩, s1, e1, e2⟩ := bnd_ok e
  rcases yK_ok e2 with ⟨e3, o2, e4, e5⟩ | ⟨e3, e4, e5, e6⟩
  · have e3 : f1 = .nx := e3
    have e5 : outs = o1 ++ o2 := e5
    subst e3 e5
    show t _ ((o1 ++ o2) ++ rest).length q.γ σ H
    rw [List.append_assoc]
    refine hf s σ B H o1 .nx s1 rep e1 { Dd with nx := fun n' γ' σ' H' => u Dd n' γ' σ' H' } J ds (o2 ++ rest) q hJ tr (by rw [hds, List.append_assoc]) hy fun σ' B' H' q' hJ' ho tr' rep' eb => ?_
    exact hg s1 σ' B' H' o2 fl s' rep' e4 Dd J ds rest q' hJ' tr' (by rw [hds, ho]; simp) hy fun σ2 B2 H2 q2 hJ2 ho2 tr2 rep2 eb2 => K σ2 B2 H2 q2 hJ2 (by rw [ho2, ho]; simp) tr2 rep2 (eb.trans eb2)
  · have e3 : f1 ≠ .nx := e3
    have e4 : outs = o1 := e4
    have e5 : fl = f1 := e5
    subst e4 e5 e6
    refine hf s σ B H outs fl s' rep e1 { Dd with nx := fun n' γ' σ' H' => u Dd n' γ' σ' H' } J ds rest q hJ tr hds hy fun σ' B' H' q' hJ' ho tr' rep' eb => ?_
    have P := K σ' B' H' q' hJ' ho tr' rep' eb
    cases fl with
    | nx => exact absurd rfl e3
    | bk => exact P
    | ct => exact P
    | rt d => exact P
theorem sndY_yield {te : TE} {f : M D} (h : Snd G W (RE G) te f) : SndY G (tYYield te) (yYield f) := fun s σ B H outs fl s' rep e Dd J ds rest q hJ tr hds hy K => by
  obtain ⟨d, s1, e1, e2⟩ := bnd_ok e
  have e2 : Res.ok ([d], Fl.nx) s1 = Res.ok (outs, fl) s' := e2
  injection e2 with e3 e4
  injection e3 with e5 e6
  subst e4 e5 e6
  refine ⟨rest.length, by simp, h s σ B H rep _ (fun d' s2 x B1 H1 e' g r q1 => ?_) (fun x s2 dd B1 H1 e' => by rw [e1] at e'; cases e') fun e' => by rw [e1] at e'; cases e'⟩
  rw [e1] at e'
  cases e'
  have tr1 := tr.step (fx := []) g.st
  have eO : ∀ a, OwnS s1 σ a → H1 a ≠ none := fun a ha => let ⟨_, _, ho⟩ := own_there r ha; ho.has
  refine hy q d rest x B1 H1 (OwnS s1 σ) _ hJ (by rw [hds]; rfl) tr1.keep tr1.dom q1 r.ex (fun a ha => ⟨tr1.bas a ha, fun z => ha (own_there r z).1⟩) (fun a ha => ⟨eO a ha, tr1.own a ha⟩) fun q' hJ' ho hP kp dm cc => ?_
  have nC : ∀ a, OwnS s1 σ a → ¬ q.C a := fun a ha c => by
    rcases tr1.own a ha with z | z
    · exact tr1.cP a c z
    · exact tr1.cH a c z
  have rep2 : Rep G s1 σ B1 q'.Hr := r.other fun a o e hb => kp a o e (hb.elim (tr1.bas a) (nC a))
  refine K σ B1 q'.Hr q' hJ' ho ⟨fun a o e _ => e, fun a h => h, fun a h => .inl (by rw [hP]; exact h), fun a hb c => ?_, fun a c => ?_, fun a c => (cc a c).2⟩ rep2 g.b
  · rcases (cc a c).1 with z | z
    · exact tr1.bas a hb z
    · cases e3 : B1 a with
      | none => exact hb e3
      | some o => rw [r.ex a o e3] at z; cases z
  · rw [hP]
    intro hO
    rcases (cc a c).1 with z | z
    · exact nC a hO z
    · exact eO a hO z
theorem sndY_if {tc : TT} {c : M Bool} {t u : TY} {f g : MY} (hc : Snd G W RT tc c) (hf : SndY G t f) (hg : SndY G u g) : SndY G (tYIf tc t u) (yIf c f g) := fun s σ B H outs fl s' rep e Dd J ds rest q hJ tr hds hy K => by
  obtain ⟨b, s1, e1, e2⟩ := bnd_ok e
  refine hc s σ B H rep _ (fun b' s2 b'' B1 H1 e' g1 r q1 => ?_) (fun x s2 dd B1 H1 e' => by rw [e1] at e'; cases e') fun e' => by rw [e1] at e'; cases e'
  rw [e1] at e'
  cases e'
  have q1 : b = b'' := q1
  subst q1
  have tr1 := tr.step (fx := []) g1.st
  cases b with
  | true => exact hf s1 σ B1 H1 outs fl s' r e2 Dd J ds rest q hJ tr1 hds hy fun σ' B' H' q' hJ' ho tr' rep' eb => K σ' B' H' q' hJ' ho tr' rep' (g1.b.trans eb)
  | false => exact hg s1 σ B1 H1 outs fl s' r e2 Dd J ds rest q hJ tr1 hds hy fun σ' B' H' q' hJ' ho tr' rep' eb => K σ' B' H' q' hJ' ho tr' rep' (g1.b.trans eb)
end
end DL

/-! ## DGg -/
namespace DL
open PySem L2
section
variable {G : Tb} {W : WX} {fx : List Nat}
theorem Rep.clrY {q : Gst} {s : Sl} {σ : St} {B H : Hp} (t : TurnR q s σ B H) (fg : List Nat) : TurnR q (clr fg s) σ B H := t.step (fx := []) (.clrd fun _ _ z => nomatch z)
theorem sndY_for {wi : TI} {fi : M (List D)} {g : TG} {tg : D → M Fl} {ns fg : List Nat} {tb : TY} {body : MY} (h : Snd G W (RI G) wi fi) (hg : SndTG G g tg ns) (hb : SndY G tb body) : SndY G (tYFor wi g tb) (yFor fi tg fg body) := fun s σ B H outs fl s' rep e Dd J ds rest q hJ tr hds hy K => by
  obtain ⟨ws, s1, e1, e2⟩ := bnd_ok e
  refine h s σ B H rep _ (fun ws' s2 Jt B1 H1 e' g1 r1 q1 => ?_) (fun x s2 dd B1 H1 e' => by rw [e1] at e'; cases e') fun e' => by rw [e1] at e'; cases e'
  rw [e1] at e'
  cases e'
  have tr1 := tr.step (fx := []) g1.st
  refine ⟨fun i m n γ' σ' H' => ∃ s2 B2 q2 o2, m = ws.length - i ∧ i ≤ ws.length ∧ Rep G s2 σ' B2 H' ∧ J q2 ∧ q2.γ = γ' ∧ TurnR q2 s2 σ' B2 H' ∧ Ex B B2 ∧ Ex B1 B2 ∧ q2.os ++ o2 = q.os ++ outs ∧ n = (o2 ++ rest).length ∧ yForL tg fg body (ws.drop i) s2 = .ok (o2, fl) s',
    ⟨ws.length, s1, B1, q, outs, by simp, Nat.zero_le _, r1, hJ, rfl, tr1, g1.b, .refl _, rfl, rfl, by rw [List.drop_zero]; exact e2⟩, ?_⟩
  rintro i m n γ' σ' H' ⟨s2, B2, q2, o2, rfl, hi, rep2, hJ2, rfl, tr2, eb2, eb12, ho, rfl, run⟩
  by_cases hlt : i < ws.length
  · refine .inr ⟨q1.go i B2 H' eb12 rep2.ex hlt, _, fun n' γ' σ2 H2 z => z, fun x H3 hy3 => ?_⟩
    obtain ⟨B3, d, gn, hd, rd⟩ := q1.yl i B2 H' x H3 eb12 rep2.ex hlt hy3
    have hdrop : ws.drop i = d :: ws.drop (i + 1) := by
      rw [List.drop_eq_getElem_cons hlt]
      have : ws[i] = d := by rw [List.getElem?_eq_getElem hlt] at hd; exact Option.some.inj hd
      rw [this]
    rw [hdrop] at run
    have rep3 := gn.rep rep2
    have tr3 := tr2.step (fx := []) (gn.gr (s := s2) (σ := σ')).st
    obtain ⟨_, s3, e3, run⟩ := bnd_ok run
    obtain ⟨⟨ob, fb⟩, s4, e4, run⟩ := bnd_ok run
    refine hg.run d x s2 σ' B3 H3 _ rep3 rd (fun s3' σ3 e3' g3 r3 _ _ _ => ?_) (by rw [e3]; intro z; cases z)
    rw [e3] at e3'
    cases e3'
    have tr33 := tr3.step (g3 [] fun _ _ z => nomatch z)
    have eb3 : Ex B B3 := eb2.trans gn.b
    have eb13 : Ex B1 B3 := eb12.trans gn.b
    -- what comes behind the body
    have key : ∃ r4, o2 = ob ++ r4 ∧ ∀ σ4 B4 H4 q4, J q4 → q4.os = q2.os ++ ob → TurnR q4 s4 σ4 B4 H4 → Rep G s4 σ4 B4 H4 → Ex B3 B4 →
        PostY G { Dd with nx := fun n' γ' σ' H' => ∃ m', m' < ws.length - i ∧ ∃ s2 B2 q2 o2, m' = ws.length - (i + 1) ∧ i + 1 ≤ ws.length ∧ Rep G s2 σ' B2 H' ∧ J q2 ∧ q2.γ = γ' ∧ TurnR q2 s2 σ' B2 H' ∧ Ex B B2 ∧ Ex B1 B2 ∧ q2.os ++ o2 = q.os ++ outs ∧ n' = (o2 ++ rest).length ∧ yForL tg fg body (ws.drop (i + 1)) s2 = .ok (o2, fl) s',
                          ct := fun n' γ' σ' H' => ∃ m', m' < ws.length - i ∧ ∃ s2 B2 q2 o2, m' = ws.length - (i + 1) ∧ i + 1 ≤ ws.length ∧ Rep G s2 σ' B2 H' ∧ J q2 ∧ q2.γ = γ' ∧ TurnR q2 s2 σ' B2 H' ∧ Ex B B2 ∧ Ex B1 B2 ∧ q2.os ++ o2 = q.os ++ outs ∧ n' = (o2 ++ rest).length ∧ yForL tg fg body (ws.drop (i + 1)) s2 = .ok (o2, fl) s',
                          bk := Dd.nx } fb (r4 ++ rest).length q4.γ σ4 B4 H4 := by
      have nxt : (∃ o5, yForL tg fg body (ws.drop (i + 1)) (clr fg s4) = .ok (o5, fl) s' ∧ o2 = ob ++ o5) → (fb = .nx ∨ fb = .ct) → ∃ r4, o2 = ob ++ r4 ∧ ∀ σ4 B4 H4 q4, J q4 → q4.os = q2.os ++ ob → TurnR q4 s4 σ4 B4 H4 → Rep G s4 σ4 B4 H4 → Ex B3 B4 →
          ∃ m', m' < ws.length - i ∧ ∃ s2 B2 q2 o2, m' = ws.length - (i + 1) ∧ i + 1 ≤ ws.length ∧ Rep G s2 σ4 B2 H4 ∧ J q2 ∧ q2.γ = q4.γ ∧ TurnR q2 s2 σ4 B2 H4 ∧ Ex B B2 ∧ Ex B1 B2 ∧ q2.os ++ o2 = q.os ++ outs ∧ (r4 ++ rest).length = (o2 ++ rest).length ∧ yForL tg fg body (ws.drop (i + 1)) s2 = .ok (o2, fl) s' := fun ⟨o5, e5, e6⟩ _ =>
        ⟨o5, e6, fun σ4 B4 H4 q4 hJ4 ho4 tr4 rep4 eb4 => ⟨_, by omega, clr fg s4, B4, q4, o5, rfl, hlt, rep4.clrd fg, hJ4, rfl, Rep.clrY tr4 fg, eb3.trans eb4, eb13.trans eb4, by rw [ho4, List.append_assoc, ← e6]; exact ho, rfl, e5⟩⟩
      cases fb with
      | nx =>
        obtain ⟨⟨o5, f5⟩, s5, e5, e6⟩ := bnd_ok run
        have e6 : Res.ok (ob ++ o5, f5) s5 = Res.ok (o2, fl) s' := e6
        injection e6 with e7 e8
        injection e7 with e9 e10
        subst e8 e9 e10
        exact nxt ⟨o5, e5, rfl⟩ (.inl rfl)
      | ct =>
        obtain ⟨⟨o5, f5⟩, s5, e5, e6⟩ := bnd_ok run
        have e6 : Res.ok (ob ++ o5, f5) s5 = Res.ok (o2, fl) s' := e6
        injection e6 with e7 e8
        injection e7 with e9 e10
        subst e8 e9 e10
        exact nxt ⟨o5, e5, rfl⟩ (.inr rfl)
      | bk =>
        have e6 : Res.ok (ob, Fl.nx) s4 = Res.ok (o2, fl) s' := run
        injection e6 with e7 e8
        injection e7 with e9 e10
        subst e8 e9 e10
        refine ⟨[], by simp, fun σ4 B4 H4 q4 hJ4 ho4 tr4 rep4 eb4 => ?_⟩
        exact K σ4 B4 H4 q4 hJ4 (by rw [ho4]; exact ho) tr4 rep4 (eb3.trans eb4)
      | rt d' =>
        have e6 : Res.ok (ob, Fl.rt d') s4 = Res.ok (o2, fl) s' := run
        injection e6 with e7 e8
        injection e7 with e9 e10
        subst e8 e9 e10
        refine ⟨[], by simp, fun σ4 B4 H4 q4 hJ4 ho4 tr4 rep4 eb4 => ?_⟩
        exact K σ4 B4 H4 q4 hJ4 (by rw [ho4]; exact ho) tr4 rep4 (eb3.trans eb4)
    obtain ⟨r4, e5, key⟩ := key
    have en : (o2 ++ rest).length = (ob ++ (r4 ++ rest)).length := by rw [e5, List.append_assoc]
    rw [en]
    exact hb s3 σ3 B3 H3 ob fb s4 r3 e4 _ J ds (r4 ++ rest) q2 hJ2 tr33 (by rw [hds, ← List.append_assoc, ← ho, e5]; simp) hy key
  · have hz : i = ws.length := by omega
    subst hz
    refine .inl ⟨q1.stop B2 H' eb12 rep2.ex, ?_⟩
    rw [List.drop_length] at run
    have run : Res.ok (([] : List D), Fl.nx) s2 = Res.ok (o2, fl) s' := run
    injection run with e7 e8
    injection e7 with e9 e10
    subst e8 e9 e10
    exact K σ' B2 H' q2 hJ2 (by rw [← ho, List.append_nil]) tr2 rep2 eb2
end
end DL

/-! ## DGh -/
namespace DL
open PySem L2
/-! ### a generator def -/
abbrev PFY := List D → Option (List D)
def resY : Res (List D × Fl) → Option (List D)
  | .ok (os, .nx) _ => some os
  | .ok (os, .rt .non) _ => some os
  | _ => none
def fnY (ps n : Nat) (body : MY) : PFY := fun ds => if ds.length = ps then resY (body (ds.map .sh ++ List.replicate (n - ds.length) .un)) else none
def spY (G : Tb) (ps : Nat) (g : PFY) : List V → GSpec := fun vs n γ H yd fin => ∃ (B : Hp) (ds outs : List D) (q : Gst) (J : Gst → Prop), Ex B H ∧ RDs G B ds vs ∧ ds.length = ps ∧ g ds = some outs ∧ n = outs.length ∧
  q.os = [] ∧ q.γ = γ ∧ q.Hr = H ∧ (∀ a, ¬ q.Pr a) ∧ J q ∧ (∀ a, q.C a → B a = none ∧ H a ≠ none) ∧ HY G J yd outs ∧
  ∀ q' H', J q' → q'.os = outs → (∀ a o, q'.Hr a = some o → ¬ q'.Pr a → H' a = some o) → (∀ a, q'.Hr a ≠ none → H' a ≠ none) → fin 0 q'.γ H'
def eCallY (g : PFY) (dds : List D) (fa : M (List D)) : M (List D) := bnd fa fun ds => opt (g (ds ++ dds))
def joinB (B B2 : Hp) : Hp := fun a => match B a with
  | some o => some o
  | none => B2 a
section
variable {G : Tb} {W : WX} {fx : List Nat} {s s1 : Sl} {σ σ1 : St} {B B2 H B1 H1 H3 : Hp}
theorem spY_len {ps : Nat} {g : PFY} {vs : List V} {n : Nat} {γ : St} {yd : YD} {fin : Nat → St → Hp → Prop} (h : spY G ps g vs n γ H yd fin) : vs.length = ps := by
  obtain ⟨B, ds, outs, q, J, ex, r, hl, _⟩ := h
  rw [r.len]; exact hl
theorem SndY.run {t : TY} {body : MY} {ps : Nat} {N : List Str} (h : SndY G t body) (hps : ps ≤ N.length) {vs : List V} {n : Nat} {γ : St} {yd : YD} {fin : Nat → St → Hp → Prop} (hs : spY G ps (fnY ps N.length body) vs n γ H yd fin) :
    t { yd := yd, nx := fun n γ _ H => fin n γ H, rt := fun n γ v H => v = .non ∧ fin n γ H } n γ (L2.start N vs) H := by
  obtain ⟨B, ds, outs, q, J, ex, r, hl, hg, rfl, ho, rfl, hH, hP, hJ, hC, hy, hf⟩ := hs
  unfold fnY at hg
  rw [if_pos hl] at hg
  have rep := rep_start (N := N) ex r (by rw [r.len]; omega)
  have no : ∀ p, ¬ OwnS (ds.map Slot.sh ++ List.replicate (N.length - ds.length) Slot.un) (L2.start N vs) p := fun p ⟨i, ⟨d, h1⟩, _⟩ => not_own_start h1
  have tr : TurnR q (ds.map Slot.sh ++ List.replicate (N.length - ds.length) Slot.un) (L2.start N vs) B H :=
    ⟨fun a o e _ => by rw [hH] at e; exact e, fun a e => by rw [hH] at e; exact e, fun a e => (no a e).elim, fun a hb c => hb (hC a c).1, fun a _ => hP a, fun a c => by rw [hH]; exact (hC a c).2⟩
  cases e : body (ds.map Slot.sh ++ List.replicate (N.length - ds.length) Slot.un) with
  | ok p s' =>
    obtain ⟨os, fl⟩ := p
    rw [e] at hg
    have en : ∀ m, m = (os ++ ([] : List D)).length → os = outs → t { yd := yd, nx := fun n γ _ H => fin n γ H, rt := fun n γ v H => v = .non ∧ fin n γ H } (os ++ ([] : List D)).length q.γ (L2.start N vs) H → t { yd := yd, nx := fun n γ _ H => fin n γ H, rt := fun n γ v H => v = .non ∧ fin n γ H } m q.γ (L2.start N vs) H := fun m e1 _ h => by rw [e1]; exact h
    cases fl with
    | nx =>
      have hg : some os = some outs := hg
      have hg := Option.some.inj hg
      subst hg
      refine en _ (by simp) rfl (h _ _ B H os .nx s' rep e _ J os [] q hJ tr (by rw [ho]; simp) hy fun σ' B' H' q' hJ' ho' tr' rep' eb => ?_)
      exact hf q' H' hJ' (by rw [ho', ho]; rfl) tr'.keep tr'.dom
    | rt d =>
      cases d with
      | non =>
        have hg : some os = some outs := hg
        have hg := Option.some.inj hg
        subst hg
        refine en _ (by simp) rfl (h _ _ B H os (.rt .non) s' rep e _ J os [] q hJ tr (by rw [ho]; simp) hy fun σ' B' H' q' hJ' ho' tr' rep' eb => ?_)
        exact fun v hv => ⟨hv, hf q' H' hJ' (by rw [ho', ho]; rfl) tr'.keep tr'.dom⟩
      | _ => cases hg
    | bk => cases hg
    | ct => cases hg
  | exc x s' => rw [e] at hg; cases hg
  | no => rw [e] at hg; cases hg
theorem join_l : Ex B (joinB B B2) := fun a o e => by unfold joinB; rw [e]
theorem join_r (h1 : Ex B H) (h2 : Ex B2 H) : Ex B2 (joinB B B2) := fun a o e => by
  unfold joinB
  cases q : B a with
  | none => exact e
  | some o' =>
    have z1 := h1 a o' q
    rw [h2 a o e] at z1
    exact z1.symm
theorem join_ex (h1 : Ex B H) (h2 : Ex B2 H) : Ex (joinB B B2) H := fun a o e => by
  unfold joinB at e
  cases q : B a with
  | none => rw [q] at e; exact h2 a o e
  | some o' => rw [q] at e; cases e; exact h1 a _ q
theorem join_or {a : Addr} (h : joinB B B2 a ≠ none) : B a ≠ none ∨ B2 a ≠ none := by
  unfold joinB at h
  cases q : B a with
  | none => rw [q] at h; exact .inr h
  | some o => exact .inl fun z => by cases z
theorem GrS.heap (g : GrS fx s σ B H s1 σ1 B1 H1) (k : ∀ a o, H a ≠ none → H1 a = some o → H3 a = some o) (dm : ∀ a, H a ≠ none → H3 a ≠ none) : GrS fx s σ B H s1 σ1 B1 H3 :=
  ⟨g.b, fun a o e n => k a o (by rw [e]; intro z; cases z) (g.keep a o e n), g.new, dm, g.own, g.fix⟩
theorem GrS.base (g : GrS fx s σ B H s1 σ1 B1 H1) (e : Ex B1 B2) (nw : ∀ a, B2 a ≠ none → B1 a ≠ none ∨ B a ≠ none ∨ H a = none) : GrS fx s σ B H s1 σ1 B2 H1 :=
  ⟨g.b.trans e, g.keep, fun a h => by
    rcases nw a h with z | z | z
    · exact g.new a z
    · exact .inl z
    · exact .inr (.inl z), g.dom, g.own, g.fix⟩
/-- .. its base grows by what is not its own -/
theorem Rep.base (r : Rep G s σ B H) (e : Ex B B2) (ex : Ex B2 H) (no : ∀ a, B2 a ≠ none → ¬ OwnS s σ a) : Rep G s σ B2 H := by
  refine ⟨ex, r.len, fun i sl q => ?_, r.sep⟩
  have h := r.slot i sl q
  cases sl with
  | un => trivial
  | sh d => obtain ⟨v, h1, h2⟩ := h; exact ⟨v, h1, h2.mono e⟩
  | own d =>
    obtain ⟨a, h1, h2, h3⟩ := h
    refine ⟨a, h1, ?_, h3.mono e fun _ z => z⟩
    exact Classical.byContradiction fun z => no a z ⟨i, ⟨d, q⟩, h1⟩
end
end DL

/-! ## DGi -/
namespace DL
open PySem L2
section
variable {G : Tb} {W : WX} {fx : List Nat}
/-- the loop at its head, items q.os behind it; H1, B1: where the generator was made -/
structure HeadY (G : Tb) (fx : List Nat) (tg : D → M Fl) (fg : List Nat) (body : M Fl) (outs : List D) (tot : Res Fl) (s : Sl) (σ : St) (B H B1 H1 : Hp) (q : Gst) (s' : Sl) (B' : Hp) : Prop where
  rep : Rep G s' q.γ B' q.Hr
  gr : GrS fx s σ B H s' q.γ B' q.Hr
  run : forL tg fg body (outs.drop q.os.length) s' = tot
  pre : ∃ rest, outs = q.os ++ rest
  c : ∀ a, q.C a ↔ OwnS s' q.γ a ∨ (H1 a ≠ none ∧ B1 a = none)
  pr : ∀ a, q.Pr a → B' a = none ∧ ¬ OwnS s' q.γ a ∧ H1 a = none
  h1 : ∀ a, H1 a ≠ none → q.Hr a ≠ none
def JY (G : Tb) (fx : List Nat) (tg : D → M Fl) (fg : List Nat) (body : M Fl) (outs : List D) (tot : Res Fl) (s : Sl) (σ : St) (B H B1 H1 : Hp) (q : Gst) : Prop :=
  ∃ s' B', HeadY G fx tg fg body outs tot s σ B H B1 H1 q s' B'
/-- the generator has run from q to H3: the loop's frame there -/
theorem HeadY.ran {tg : D → M Fl} {fg : List Nat} {body : M Fl} {outs : List D} {tot : Res Fl} {s s' : Sl} {σ : St} {B H B1 H1 B' H3 : Hp} {q : Gst} (h : HeadY G fx tg fg body outs tot s σ B H B1 H1 q s' B') (g01 : ∀ a, H a ≠ none → H1 a ≠ none)
    (kp : ∀ a o, q.Hr a = some o → ¬ q.Pr a → H3 a = some o) (dm : ∀ a, q.Hr a ≠ none → H3 a ≠ none) : Rep G s' q.γ B' H3 ∧ GrS fx s σ B H s' q.γ B' H3 := by
  refine ⟨h.rep.other fun a o e hb => kp a o e fun p => ?_, h.gr.heap (fun a o n e => kp a o e fun p => g01 a n (h.pr a p).2.2) fun a n => dm a (h.gr.dom a n)⟩
  rcases hb with z | z
  · exact z (h.pr a p).1
  · exact (h.pr a p).2.1 z
theorem sndS_forY {np : Nat} {g : PFY} {dds : List D} {dvs : List V} {tr : TA} {fr : M (List D)} {tgt : TG} {tg : D → M Fl} {ns fg : List Nat} {tb : TS} {body : M Fl} (hd : ∀ B, RDs G B dds dvs) (hn : ∀ ds outs, g ds = some outs → ds.length = np) (ha : Snd G W (RA G) tr fr)
    (hg : SndTG G tgt tg ns) (hns : ∀ i ∈ ns, i ∉ fx) (hfg : ∀ i ∈ fg, i ∉ fx) (hb : SndS G W fx tb body) :
    SndS G W fx (tForY (tCallY np (spY G np g) dvs tr) tgt tb) (sFor (eCallY g dds fr) tg fg body) := fun s σ B H rep Dd ok exc nn => by
  refine ha s σ B H rep _ (fun ds s1 vs B1 H1 e1 g1 r1 q1 => ?_) (fun x s1 dd B1 H1 e1 g1 r1 q1 => exc x s1 σ dd B1 H1 (by simp only [sFor, eCallY, bnd, e1]) g1.st r1 q1) fun e => nn (by simp only [sFor, eCallY, bnd, e])
  have q1 : RDs G B1 ds vs := q1
  cases e2 : g (ds ++ dds) with
  | none => exact absurd (by simp only [sFor, eCallY, bnd, e1, opt, e2]) nn
  | some outs =>
    have eb : sFor (eCallY g dds fr) tg fg body s = forL tg fg body outs s1 := by simp only [sFor, eCallY, bnd, e1, opt, e2]
    have g01 : ∀ a, H a ≠ none → H1 a ≠ none := g1.dom
    have rv : RDs G B1 (ds ++ dds) (vs ++ dvs) := q1.append (hd B1)
    refine ⟨by rw [rv.len]; exact hn _ _ e2, outs.length,
      fun m x γ H3 k => ∃ q d rest By Pr1, q.γ = γ ∧ m = rest.length ∧ JY G fx tg fg body outs (sFor (eCallY g dds fr) tg fg body s) s σ B H B1 H1 q ∧ outs = q.os ++ d :: rest ∧ (∀ a o, q.Hr a = some o → ¬ q.Pr a → H3 a = some o) ∧ (∀ a, q.Hr a ≠ none → H3 a ≠ none) ∧
        RD G By d x ∧ Ex By H3 ∧ (∀ a, By a ≠ none → ¬ q.C a ∧ ¬ Pr1 a) ∧ (∀ a, Pr1 a → H3 a ≠ none ∧ (q.Pr a ∨ q.Hr a = none)) ∧
        ∀ q' : Gst, JY G fx tg fg body outs (sFor (eCallY g dds fr) tg fg body s) s σ B H B1 H1 q' → q'.os = q.os ++ [d] → q'.Pr = Pr1 → (∀ a o, H3 a = some o → ¬ q.C a → q'.Hr a = some o) → (∀ a, H3 a ≠ none → q'.Hr a ≠ none) → (∀ a, q'.C a → (q.C a ∨ H3 a = none) ∧ q'.Hr a ≠ none) → k q'.γ q'.Hr,
      fun m γ H3 => ∃ q, q.γ = γ ∧ JY G fx tg fg body outs (sFor (eCallY g dds fr) tg fg body s) s σ B H B1 H1 q ∧ q.os = outs ∧ (∀ a o, q.Hr a = some o → ¬ q.Pr a → H3 a = some o) ∧ (∀ a, q.Hr a ≠ none → H3 a ≠ none), ?_, ?_, ?_⟩
    · refine ⟨B1, ds ++ dds, outs, ⟨[], σ, fun a => OwnS s1 σ a ∨ (H1 a ≠ none ∧ B1 a = none), fun _ => False, H1⟩, JY G fx tg fg body outs (sFor (eCallY g dds fr) tg fg body s) s σ B H B1 H1, r1.ex, rv, hn _ _ e2, e2, rfl, rfl, rfl, rfl, fun _ z => z, ?_, fun a c => ?_, ?_, ?_⟩
      · exact ⟨s1, B1, r1, g1.st, by rw [eb]; rfl, ⟨outs, rfl⟩, fun a => Iff.rfl, fun a z => z.elim, fun a z => z⟩
      · rcases c with z | z
        · obtain ⟨h1, d, h2⟩ := own_there r1 z
          exact ⟨h1, h2.has⟩
        · exact ⟨z.2, z.1⟩
      · intro q d rest x By H3 Pr1 k hJ ho kp dm rd ex nb np' kk
        exact ⟨q, d, rest, By, Pr1, rfl, rfl, hJ, ho, kp, dm, rd, ex, nb, np', kk⟩
      · exact fun q' H' hJ ho kp dm => ⟨q', rfl, hJ, ho, kp, dm⟩
    · rintro m x γ H3 k ⟨q, d, rest, By, Pr1, rfl, rfl, ⟨s', B', hd'⟩, ho, kp, dm, rd, exy, nb, np', kk⟩ F nF
      obtain ⟨rep3, gr3⟩ := hd'.ran g01 kp dm
      have cOwn : ∀ a, OwnS s' q.γ a → q.C a := fun a z => (hd'.c a).2 (.inl z)
      -- the bases are joined
      have repJ : Rep G s' q.γ (joinB B' By) H3 := rep3.base join_l (join_ex rep3.ex exy) fun a h z => by
        rcases join_or h with y | y
        · exact y (own_there rep3 z).1
        · exact (nb a y).1 (cOwn a z)
      have grJ : GrS fx s σ B H s' q.γ (joinB B' By) H3 := gr3.base join_l fun a h => by
        rcases join_or h with y | y
        · exact .inl y
        · by_cases z1 : H1 a = none
          · exact .inr (.inr (Classical.byContradiction fun z => g01 a z z1))
          · by_cases z2 : B1 a = none
            · exact ((nb a y).1 ((hd'.c a).2 (.inr ⟨z1, z2⟩))).elim
            · rcases g1.new a z2 with w | w
              · exact .inr (.inl w)
              · exact .inr (.inr w)
      have rdJ : RD G (joinB B' By) d x := rd.mono (join_r rep3.ex exy)
      -- what sleeps stands beside
      have repF : Rep G s' q.γ (joinB B' By) (frzF F H3) := repJ.other fun a o e _ => frzF_has nF e
      have grF : GrS fx s σ B H s' q.γ (joinB B' By) (frzF F H3) := grJ.heap (fun a o _ e => frzF_has nF e) fun a n => by
        have := grJ.dom a n
        cases e : H3 a with
        | none => exact absurd e this
        | some o => rw [frzF_has nF e]; intro z; cases z
      have run := hd'.run
      have hdrop : outs.drop q.os.length = d :: rest := by rw [ho, List.drop_left]
      rw [hdrop] at run
      have n0 : tg d s' ≠ .no := fun z => nn (by rw [← run]; simp only [forL, bnd, sSeq, z])
      refine hg.run d x s' q.γ _ _ _ repF rdJ (fun s2 σ2 e3 g2 r2 _ _ _ => ?_) n0
      have e4 : forL tg fg body (d :: rest) s' = bnd body (forK (forL tg fg body rest) fg) s2 := by simp only [forL, bnd, sSeq, e3, seqK]
      have g2' := g2 fx hns
      have g02 := grF.trans g2'
      refine hb s2 σ2 _ _ r2 _ (fun fl s4 σ4 B4 H4 e5 g4 r4 => ?_) (fun y s4 σ4 dd B4 H4 e5 g4 r4 q4 => exc y s4 σ4 dd B4 H4 (by rw [← run, e4]; simp only [bnd, e5]) (g02.trans g4) r4 q4) fun z => nn (by rw [← run, e4]; simp only [bnd, z])
      have e6 : sFor (eCallY g dds fr) tg fg body s = forK (forL tg fg body rest) fg fl s4 := by rw [← run, e4]; simp only [bnd, e5]
      have g24 := g2'.trans g4
      have g04 := g02.trans g4
      have nxt : sFor (eCallY g dds fr) tg fg body s = forL tg fg body rest (clr fg s4) → FrzIn F H4 ∧ k σ4 (unF F H4) := fun e7 => by
        have ownF : ∀ a o, F a = some o → ¬ OwnS s' q.γ a := fun a o e z => by
          obtain ⟨_, d', h⟩ := own_there repJ z
          exact h.has (nF a o e)
        have inF : FrzIn F H4 := fun a o e => g24.keep a _ (frzF_at e) (ownF a o e)
        have g5 : GrS fx s' q.γ (joinB B' By) (frzF F H3) (clr fg s4) σ4 B4 H4 := g24.trans (.clrd hfg)
        have r5 : Rep G (clr fg s4) σ4 B4 H4 := r4.clrd fg
        have notF : ∀ a o, F a = some o → B4 a = none ∧ ¬ OwnS (clr fg s4) σ4 a := fun a o e => by
          refine ⟨Classical.byContradiction fun z => ?_, fun z => ?_⟩
          · rcases g5.new a z with y | y | y
            · cases e8 : joinB B' By a with
              | none => exact y e8
              | some u =>
                have := repJ.ex a u e8
                rw [nF a o e] at this; cases this
            · rw [frzF_at e] at y; cases y
            · exact ownF a o e y
          · rcases g5.own a z with y | y
            · exact ownF a o e y
            · rw [frzF_at e] at y; cases y
        have r6 : Rep G (clr fg s4) σ4 B4 (unF F H4) := r5.other fun a u e hb' => by
          cases e8 : F a with
          | none => rw [unF_off e8]; exact e
          | some o =>
            rcases hb' with y | y
            · exact (y (notF a o e8).1).elim
            · exact ((notF a o e8).2 y).elim
        have kept : ∀ a u, H3 a = some u → H4 a = some u → unF F H4 a = some u := fun a u e e' => by
          cases e8 : F a with
          | none => rw [unF_off e8]; exact e'
          | some o => rw [nF a o e8] at e; cases e
        have dom4 : ∀ a, H3 a ≠ none → unF F H4 a ≠ none := fun a n => by
          cases e8 : F a with
          | none =>
            rw [unF_off e8]
            refine g5.dom a ?_
            rw [frzF_off e8]; exact n
          | some o => exact (n (nF a o e8)).elim
        have g6 : GrS fx s σ B H (clr fg s4) σ4 B4 (unF F H4) := (g04.trans (.clrd hfg)).heap (fun a o n e => by
          cases e8 : F a with
          | none => rw [unF_off e8]; exact e
          | some o' => exact (grJ.dom a n (nF a o' e8)).elim) fun a n => dom4 a (grJ.dom a n)
        refine ⟨inF, kk ⟨q.os ++ [d], σ4, fun a => OwnS (clr fg s4) σ4 a ∨ (H1 a ≠ none ∧ B1 a = none), Pr1, unF F H4⟩ ⟨clr fg s4, B4, r6, g6, ?_, ⟨rest, by rw [ho]; simp⟩, fun a => Iff.rfl, fun a p => ?_, fun a n => ?_⟩ rfl rfl (fun a o e n => ?_) dom4 fun a c => ?_⟩
        · have : outs.drop (q.os ++ [d]).length = rest := by
            rw [ho, show q.os ++ d :: rest = (q.os ++ [d]) ++ rest by simp, List.drop_left]
          show forL tg fg body (outs.drop (q.os ++ [d]).length) (clr fg s4) = _
          rw [this, e7]
        · obtain ⟨p1, p2⟩ := np' a p
          have pB : B' a = none := by
            rcases p2 with z | z
            · exact (hd'.pr a z).1
            · cases e8 : B' a with
              | none => rfl
              | some u => rw [hd'.rep.ex a u e8] at z; cases z
          have pO : ¬ OwnS s' q.γ a := fun y => by
            rcases p2 with z | z
            · exact (hd'.pr a z).2.1 y
            · obtain ⟨_, d', h⟩ := own_there hd'.rep y
              exact h.has z
          have pF : frzF F H3 a ≠ none := by
            cases e8 : H3 a with
            | none => exact absurd e8 p1
            | some u => rw [frzF_has nF e8]; intro z; cases z
          refine ⟨Classical.byContradiction fun z => ?_, fun z => ?_, ?_⟩
          · rcases g5.new a z with y | y | y
            · rcases join_or y with w | w
              · exact w pB
              · exact (nb a w).2 p
            · exact pF y
            · exact pO y
          · rcases g5.own a z with y | y
            · exact pO y
            · exact pF y
          · rcases p2 with z | z
            · exact (hd'.pr a z).2.2
            · exact Classical.byContradiction fun y => hd'.h1 a y z
        · exact dom4 a (dm a (hd'.h1 a n))
        · exact kept a o e (g5.keep a o (frzF_has nF e) fun z => n (cOwn a z))
        · rcases c with z | z
          · refine ⟨?_, ?_⟩
            · rcases g5.own a z with y | y
              · exact .inl (cOwn a y)
              · refine .inr ?_
                cases e8 : H3 a with
                | none => rfl
                | some u => rw [frzF_has nF e8] at y; cases y
            · obtain ⟨_, d', h⟩ := own_there r6 z
              exact h.has
          · exact ⟨.inl ((hd'.c a).2 (.inr z)), dom4 a (dm a (hd'.h1 a z.1))⟩
      cases fl with
      | nx => exact nxt e6
      | ct => exact nxt e6
      | bk => exact ok .nx s4 σ4 B4 H4 e6 g04 r4
      | rt d' => exact ok (.rt d') s4 σ4 B4 H4 e6 g04 r4
    · rintro m γ H3 ⟨q, rfl, ⟨s', B', hd'⟩, ho, kp, dm⟩
      obtain ⟨rep3, gr3⟩ := hd'.ran g01 kp dm
      have run := hd'.run
      rw [ho, List.drop_length] at run
      exact ok .nx s' q.γ B' H3 run.symm gr3 rep3
end
end DL

/-! ## DGj -/
namespace L2
open PySem PySem.Spec PyProof.Rows
theorem ex_mkY {p q : TY → Prop} {t : TY} (sn : q t) (pe : p t) : ∃ t, p t ∧ q t := ⟨t, pe, sn⟩
/-- a generator def that may be walked by the name x -/
structure CalY (P : Program) (w : World) (K : PySem.W.Frag) (mg : Str → Option Value) (base : Heap) (k : Nat) (x : Str) (dvs : List V) (np : Nat) (sp : List V → GSpec) : Prop where
  ex : ∃ f fd ps ds, GFnY P w K mg base k f fd ps sp ∧ mg x = some (.ref f) ∧ PySem.W.keepIn K (.ref f) = true ∧ Binds K fd ps ds ∧ Vals dvs ds ∧ ps.length = np
section
variable {X : Cx} {k np : Nat} {sp : List V → GSpec} {dvs : List V} {x : Str} {p pos : Pos} {e : Expr} {es : List Expr} {t : TA}
theorem pgy_cal (h : CalY X.prog X.w X.K X.mg X.base k x dvs np sp) (hr : Room k X.A) (ha : PA X (e :: es) t) (hg : Gl X x := by rfl) (hdb : (x == ("__debug__" : Str)) = false := by decide) (he : starEach (e :: es) X.env = (false, eval e X.env) :: starEach es X.env := by rfl) (hpl : (backTo pos (starEach es X.env)).any (·.1) = false := by rfl) :
    PGY X (.Call (.Name x p) (e :: es) [] pos) (tCallY np sp dvs t) := by
  obtain ⟨f, fd, ps, ds, F, hm, kp, b, d, hl⟩ := h.ex
  exact pgy_call F hr hg hm kp b d ha hl hdb he hpl
end
end L2
namespace DL
open PySem L2
open PyProof.Rows (envOfC)
section
theorem fnF_len {ps n : Nat} {init : M Fl} {last : M D} {ds : List D} {d : D} (h : fnF ps n init last ds = .ok d) : ds.length = ps := by
  unfold fnF at h
  split at h
  · assumption
  · cases h
theorem fnY_len {ps n : Nat} {body : MY} {ds outs : List D} (h : fnY ps n body ds = some outs) : ds.length = ps := by
  unfold fnY at h
  split at h
  · assumption
  · cases h
variable {P : Program} {w : World} {K : PySem.W.Frag} {mg : Str → Option Value} {base : Heap} {x q : Str} {st : Stmt} {N ps : List Str} {k : Nat} {ca : Nat → Addr} {body : MY} {dvs : List V}
theorem fnD_law {body : M Fl} {np n : Nat} {g : PF} {f : Addr} {fd : FuncData} (h1 : ps.length = np) (h2 : N.length = n) (hg : g = fnP np n body) (F : Fun K x q st f fd) (S : FnScope N ps (defScope st)) (hl : ps.length ≤ N.length)
    (h : ∀ (cdv : Value) (A : Around) (outer : List Env) (s : Shared) (H : Hp) (E : XK), A.guards = some [] → Room k (A.deeper (envOfC q (defScope st) s.heap.objs.size f cdv)) → ∃ t, PSs (cxOf CX0 P w K mg base N q (defScope st) f cdv A outer s H E).nox (defBody st) t ∧ SndS ⟨K, ca⟩ W0 [] t body) :
    FnD P w K mg base (k + 1) f fd ps (spP ⟨K, ca⟩ np g) := by
  subst h1 h2 hg
  exact okD_fnP F S hl h
theorem cal_fnY {np n : Nat} {g : PFY} (h1 : ps.length = np) (h2 : N.length = n) (hg : g = fnY np n body) (F : Has K mg x q st ps dvs) (S : GScope N ps (defScope st)) (hl : ps.length ≤ N.length)
    (h : ∀ (f : Addr) (cdv : Value) (X : Cx) (cp : List (Addr × Obj)) (L a : Addr) (go : Obj), Room k (X.A.in1.deeper (envOfC q (defScope st) L f cdv)) → ∃ t, GSYs (gyOf P w K mg base X cp N q (defScope st) L f cdv a go) (defBody st) t ∧ SndY ⟨K, ca⟩ t body) :
    CalY P w K mg base (k + 1) x dvs np (spY ⟨K, ca⟩ np g) := by
  subst h1 h2 hg
  obtain ⟨f, fd, ds, F, hm, b, v⟩ := F.ex
  obtain ⟨oc, od, kV, doc, pm, an, cdv, ct, osl, rfl, lk, hcd⟩ := F.ex
  refine ⟨f, _, ps, ds, gfny_of lk hcd S (fun vs n γ H yd fin z => spY_len z) (fun X cp L a go hr => ?_), hm, F.kp, b, v, rfl⟩
  obtain ⟨t, ht, hs⟩ := h f cdv X cp L a go hr
  exact ⟨t, ht, fun vs n γ H yd fin z => hs.run hl z⟩
end
end DL

/-! ## EVa -/
/-! EVa: what a denotation gives, as a statement about its run: total, no exception. -/
namespace DL
open PySem L2
theorem sizeLine_eq : sizeLine = 16777216 := rfl
def EvR {α : Type} (r : Res α) (Q : α → Sl → Prop) : Prop := match r with
  | .ok a s' => Q a s'
  | _ => False
@[irreducible] def Ev {α : Type} (m : M α) (s : Sl) (Q : α → Sl → Prop) : Prop := EvR (m s) Q
@[simp] theorem evR_ok {α : Type} {a : α} {s' : Sl} {Q : α → Sl → Prop} : EvR (.ok a s') Q ↔ Q a s' := Iff.rfl
@[simp] theorem evR_exc {α : Type} {x : Exn} {s' : Sl} {Q : α → Sl → Prop} : EvR (.exc x s') Q ↔ False := Iff.rfl
@[simp] theorem evR_no {α : Type} {Q : α → Sl → Prop} : EvR (.no : Res α) Q ↔ False := Iff.rfl
theorem ev_iff {α : Type} {m : M α} {s : Sl} {Q : α → Sl → Prop} : Ev m s Q ↔ ∃ a s', m s = .ok a s' ∧ Q a s' := by
  unfold Ev
  cases h : m s with
  | ok a s' => exact ⟨fun q => ⟨a, s', rfl, q⟩, fun ⟨b, t, e, q⟩ => by cases e; exact q⟩
  | exc x s' => exact ⟨fun q => q.elim, fun ⟨b, t, e, q⟩ => by cases e⟩
  | no => exact ⟨fun q => q.elim, fun ⟨b, t, e, q⟩ => by cases e⟩
section
variable {α β : Type} {s : Sl} {f : M α} {k : α → M β} {Q : β → Sl → Prop}
theorem ev_bnd : Ev (bnd f k) s Q ↔ Ev f s fun a s1 => Ev (k a) s1 Q := by
  unfold Ev bnd
  cases h : f s <;> simp
theorem ev_ret {a : α} {Q : α → Sl → Prop} : Ev (ret a) s Q ↔ Q a s := by simp [Ev, ret]
theorem ev_opt {a : Option α} {Q : α → Sl → Prop} : Ev (opt a) s Q ↔ ∃ x, a = some x ∧ Q x s := by
  unfold Ev opt
  cases a <;> simp
theorem ev_no {Q : α → Sl → Prop} : Ev (no : M α) s Q ↔ False := by simp [Ev, no]
theorem Ev.mono {f : M α} {Q R : α → Sl → Prop} (h : Ev f s Q) (k : ∀ a s', Q a s' → R a s') : Ev f s R := by
  obtain ⟨a, s', e, q⟩ := ev_iff.1 h; exact ev_iff.2 ⟨a, s', e, k a s' q⟩
theorem Ev.of_eq {f : M α} {a : α} {s' : Sl} {Q : α → Sl → Prop} (h : f s = .ok a s') (q : Q a s') : Ev f s Q := ev_iff.2 ⟨a, s', h, q⟩
theorem Ev.eq {f : M α} {a : α} {s1 : Sl} (h : Ev f s fun x s' => x = a ∧ s' = s1) : f s = .ok a s1 := by
  obtain ⟨x, s', e, rfl, rfl⟩ := ev_iff.1 h; exact e
end
section
variable {s : Sl} {g : D → D → Option D} {gu : D → Option D} {fa fb : M D} {Q : D → Sl → Prop} {i : Nat}
theorem ev_eC {d : D} : Ev (eC d) s Q ↔ Q d s := ev_ret
theorem ev_eVar : Ev (eVar i) s Q ↔ ∃ d, s[i]? = some (.sh d) ∧ Q d s := by
  unfold Ev eVar
  cases h : s[i]? with
  | none => simp
  | some sl => cases sl <;> simp
theorem ev_eOwn : Ev (eOwn i) s Q ↔ ∃ d, s[i]? = some (.own d) ∧ Q d s := by
  unfold Ev eOwn
  cases h : s[i]? with
  | none => simp
  | some sl => cases sl <;> simp
theorem ev_eBin : Ev (eBin g fa fb) s Q ↔ Ev fa s fun x s1 => Ev fb s1 fun y s2 => ∃ d, g x y = some d ∧ Q d s2 := by simp [ev_bnd, ev_opt, ev_ret, eBin]
theorem ev_eBinO : Ev (eBinO g i fb) s Q ↔ Ev (eOwn i) s fun _ s1 => Ev fb s1 fun y s2 => Ev (eOwn i) s2 fun x s3 => ∃ d, g x y = some d ∧ Q d s3 := by
  unfold eBinO; rw [ev_bnd]; simp only [ev_bnd, ev_opt]
theorem ev_eUn : Ev (eUn gu fa) s Q ↔ Ev fa s fun x s1 => ∃ d, gu x = some d ∧ Q d s1 := by simp [ev_bnd, ev_opt, ev_ret, eUn]
variable {gb : D → Option Bool} {QB : Bool → Sl → Prop} {ca cb : M Bool}
theorem ev_tstB : Ev (tstB gb fa) s QB ↔ Ev fa s fun x s1 => ∃ d, gb x = some d ∧ QB d s1 := by unfold tstB; simp only [ev_bnd, ev_opt]
theorem ev_bAnd : Ev (bAnd ca cb) s QB ↔ Ev ca s fun c s1 => if c = true then Ev cb s1 QB else QB false s1 := by
  unfold bAnd; rw [ev_bnd]
  constructor <;> (intro h; refine h.mono fun c s1 q => ?_; cases c <;> simpa [ev_ret] using q)
theorem ev_bOr : Ev (bOr ca cb) s QB ↔ Ev ca s fun c s1 => if c = true then QB true s1 else Ev cb s1 QB := by
  unfold bOr; rw [ev_bnd]
  constructor <;> (intro h; refine h.mono fun c s1 q => ?_; cases c <;> simpa [ev_ret] using q)
theorem ev_bNot : Ev (bNot ca) s QB ↔ Ev ca s fun c s1 => QB (!c) s1 := by unfold bNot; simp only [ev_bnd, ev_ret]
theorem ev_eIf {α : Type} {a b : M α} {Q : α → Sl → Prop} : Ev (eIf ca a b) s Q ↔ Ev ca s fun c s1 => if c = true then Ev a s1 Q else Ev b s1 Q := by
  unfold eIf; rw [ev_bnd]
  constructor <;> (intro h; refine h.mono fun c s1 q => ?_; cases c <;> simpa [ev_ret] using q)
variable {fr : M (List D)} {QL : List D → Sl → Prop}
theorem ev_aNil : Ev aNil s QL ↔ QL [] s := ev_ret
theorem ev_aCons : Ev (aCons fa fr) s QL ↔ Ev fa s fun x s1 => Ev fr s1 fun xs s2 => QL (x :: xs) s2 := by simp [ev_bnd, ev_opt, ev_ret, aCons]
theorem ev_eArgs {gl : List D → Option D} : Ev (eArgs gl fr) s Q ↔ Ev fr s fun xs s1 => ∃ d, gl xs = some d ∧ Q d s1 := by simp [ev_bnd, ev_opt, ev_ret, eArgs]
theorem ev_aStar : Ev (aStar fa fr) s QL ↔ Ev fa s fun d s1 => ∃ xs, seqL d = some xs ∧ Ev fr s1 fun ys s2 => QL (xs ++ ys) s2 := by simp [ev_bnd, ev_opt, ev_ret, aStar]
theorem ev_itOf {gi : D → Option (List D)} : Ev (itOf gi fa) s QL ↔ Ev fa s fun d s1 => ∃ xs, gi d = some xs ∧ QL xs s1 := by simp [ev_bnd, ev_opt, ev_ret, itOf]
theorem ev_it2 {gi : D → D → Option (List D)} : Ev (it2 gi fa fb) s QL ↔ Ev fa s fun x s1 => Ev fb s1 fun y s2 => ∃ xs, gi x y = some xs ∧ QL xs s2 := by simp [ev_bnd, ev_opt, ev_ret, it2]
theorem ev_it3 {gi : D → D → D → Option (List D)} {fc : M D} : Ev (it3 gi fa fb fc) s QL ↔ Ev fa s fun x s1 => Ev fb s1 fun y s2 => Ev fc s2 fun z s3 => ∃ xs, gi x y z = some xs ∧ QL xs s3 := by simp [ev_bnd, ev_opt, ev_ret, it3]
theorem ev_oNone {QO : Option Int → Sl → Prop} : Ev oNone s QO ↔ QO none s := ev_ret
theorem ev_oSome {QO : Option Int → Sl → Prop} : Ev (oSome fa) s QO ↔ Ev fa s fun d s1 => ∃ x, asI d = some x ∧ QO x s1 := by simp [ev_bnd, ev_opt, ev_ret, oSome]
theorem ev_eSl {gs : D → Option Int → Option Int → Option D} {fl fh : M (Option Int)} : Ev (eSl gs fa fl fh) s Q ↔ Ev fa s fun x s1 => Ev fl s1 fun lo s2 => Ev fh s2 fun hi s3 => ∃ d, gs x lo hi = some d ∧ Q d s3 := by simp [ev_bnd, ev_opt, ev_ret, eSl]
theorem ev_eStr1 : Ev (eStr1 g fa fb) s Q ↔ Ev fa s fun x s1 => ∃ _u, asStr x = some _u ∧ Ev fb s1 fun y s2 => ∃ d, g x y = some d ∧ Q d s2 := by simp [ev_bnd, ev_opt, ev_ret, eStr1]
theorem ev_eLst1 : Ev (eLst1 g fa fb) s Q ↔ Ev fa s fun x s1 => ∃ _u, asLst x = some _u ∧ Ev fb s1 fun y s2 => ∃ d, g x y = some d ∧ Q d s2 := by simp [ev_bnd, ev_opt, ev_ret, eLst1]
theorem ev_eAndV : Ev (eAndV fa fb) s Q ↔ Ev fa s fun x s1 => (x = .bl true ∧ Ev fb s1 Q) ∨ (x = .bl false ∧ Q (.bl false) s1) := by
  unfold eAndV; rw [ev_bnd]
  constructor <;> (intro h; refine h.mono fun x s1 q => ?_; cases x with | bl b => cases b <;> simpa [andK, ev_ret, ev_no] using q | _ => simp [andK, ev_ret, ev_no] at q)
theorem ev_eOrV : Ev (eOrV fa fb) s Q ↔ Ev fa s fun x s1 => (x = .bl false ∧ Ev fb s1 Q) ∨ (x = .bl true ∧ Q (.bl true) s1) := by
  unfold eOrV; rw [ev_bnd]
  constructor <;> (intro h; refine h.mono fun x s1 q => ?_; cases x with | bl b => cases b <;> simpa [orK, ev_ret, ev_no] using q | _ => simp [orK, ev_ret, ev_no] at q)
/-! statements -/
variable {a b : M Fl} {QF : Fl → Sl → Prop}
theorem ev_sSeq : Ev (sSeq a b) s QF ↔ Ev a s fun fl s1 => Ev (seqK b fl) s1 QF := by simp [ev_bnd, ev_opt, ev_ret, sSeq]
theorem ev_seqK_nx : Ev (seqK b .nx) s QF ↔ Ev b s QF := Iff.rfl
theorem ev_seqK_bk : Ev (seqK b .bk) s QF ↔ QF .bk s := ev_ret
theorem ev_seqK_ct : Ev (seqK b .ct) s QF ↔ QF .ct s := ev_ret
theorem ev_seqK_rt {d : D} : Ev (seqK b (.rt d)) s QF ↔ QF (.rt d) s := ev_ret
theorem ev_sNx : Ev sNx s QF ↔ QF .nx s := ev_ret
theorem ev_sRet : Ev (sRet fa) s QF ↔ Ev fa s fun d s1 => QF (.rt d) s1 := by simp [ev_bnd, ev_opt, ev_ret, sRet]
theorem ev_sRetN : Ev sRetN s QF ↔ QF (.rt .non) s := ev_ret
theorem ev_sDrop {α : Type} {f : M α} : Ev (sDrop f) s QF ↔ Ev f s fun _ s1 => QF .nx s1 := by simp [ev_bnd, ev_opt, ev_ret, ev_sNx, sDrop]
theorem ev_sIf : Ev (sIf ca a b) s QF ↔ Ev ca s fun c s1 => if c = true then Ev a s1 QF else Ev b s1 QF := by
  unfold sIf; rw [ev_bnd]
  constructor <;> (intro h; refine h.mono fun c s1 q => ?_; cases c <;> simpa [ev_ret] using q)
theorem ev_setS {sl : Slot} : Ev (setS i sl) s QF ↔ i < s.length ∧ QF .nx (s.set i sl) := by
  unfold Ev setS
  split <;> simp [*]
theorem ev_sAsg : Ev (sAsg i fa) s QF ↔ Ev fa s fun d s1 => i < s1.length ∧ QF .nx (s1.set i (.sh d)) := by simp [ev_bnd, ev_opt, ev_ret, ev_sNx, ev_setS, sAsg]
theorem ev_sAsgO : Ev (sAsgO i fa) s QF ↔ Ev fa s fun d s1 => i < s1.length ∧ QF .nx (s1.set i (.own d)) := by simp [ev_bnd, ev_opt, ev_ret, ev_sNx, ev_setS, sAsgO]
theorem ev_frzS : Ev (frzS i) s QF ↔ ∃ d, s[i]? = some (.own d) ∧ QF .nx (s.set i (.sh d)) := by
  unfold Ev frzS
  cases h : s[i]? with
  | none => simp
  | some sl => cases sl <;> simp
theorem ev_tgN {d : D} : Ev (tgN i d) s QF ↔ i < s.length ∧ QF .nx (s.set i (.sh d)) := ev_setS
theorem ev_setSs_nil : Ev (setSs [] []) s QF ↔ QF .nx s := ev_ret
theorem ev_setSs_cons {is : List Nat} {d : D} {ds : List D} : Ev (setSs (i :: is) (d :: ds)) s QF ↔ i < s.length ∧ Ev (setSs is ds) (s.set i (.sh d)) QF := by
  rw [show setSs (i :: is) (d :: ds) = sSeq (setS i (.sh d)) (setSs is ds) from rfl, ev_sSeq, ev_setS, ev_seqK_nx]
theorem ev_unpK {is : List Nat} {ds : List D} : Ev (unpK is (.tup ds)) s QF ↔ Ev (setSs is ds) s QF := Iff.rfl
theorem ev_sUnp {is : List Nat} : Ev (sUnp is fa) s QF ↔ Ev fa s fun d s1 => Ev (unpK is d) s1 QF := by simp [ev_bnd, ev_opt, ev_ret, ev_sNx, ev_setS, sUnp]
theorem ev_sClr {vs : List Nat} : Ev (sClr vs) s QF ↔ QF .nx (clr vs s) := by simp [Ev, sClr]
theorem ev_ownIs {p : D → Bool} {QU : Unit → Sl → Prop} : Ev (ownIs p i) s QU ↔ ∃ x, s[i]? = some (.own x) ∧ p x = true ∧ QU () s := by
  unfold Ev ownIs
  cases h : s[i]? with
  | none => simp
  | some sl =>
    cases sl with
    | own x => cases hp : p x <;> simp [hp]
    | _ => simp
theorem ev_modOwn {α : Type} {gm : D → Option (α × D)} {Q : α → Sl → Prop} : Ev (modOwn i gm) s Q ↔ ∃ x a b, s[i]? = some (.own x) ∧ gm x = some (a, b) ∧ Q a (s.set i (.own b)) := by
  unfold Ev modOwn
  cases h : s[i]? with
  | none => simp
  | some sl =>
    cases sl with
    | own x =>
      cases hp : gm x with
      | none => simp [hp]
      | some r =>
        obtain ⟨a, b⟩ := r
        constructor
        · intro q; exact ⟨_, _, _, rfl, hp, by simpa [hp] using q⟩
        · rintro ⟨x1, a1, b1, e3, e4, q⟩
          cases e3; rw [hp] at e4; cases e4; simpa [hp] using q
    | _ => simp
theorem ev_eMeth1 {α : Type} {p : D → Bool} {gm : D → D → Option (α × D)} {Q : α → Sl → Prop} : Ev (eMeth1 p i gm fa) s Q ↔ ∃ x, s[i]? = some (.own x) ∧ p x = true ∧ Ev fa s fun d s1 => ∃ x a b, s1[i]? = some (.own x) ∧ gm d x = some (a, b) ∧ Q a (s1.set i (.own b)) := by
  unfold eMeth1; rw [ev_bnd, ev_ownIs]; simp only [ev_bnd, ev_modOwn]
theorem ev_eMeth0 {α : Type} {p : D → Bool} {gm : D → Option (α × D)} {Q : α → Sl → Prop} : Ev (eMeth0 p i gm) s Q ↔ ∃ x, s[i]? = some (.own x) ∧ p x = true ∧ ∃ x a b, s[i]? = some (.own x) ∧ gm x = some (a, b) ∧ Q a (s.set i (.own b)) := by
  unfold eMeth0; rw [ev_bnd, ev_ownIs]; simp only [ev_modOwn]
theorem ev_sSetL : Ev (sSetL i fa fb) s QF ↔ Ev fb s fun d s1 => ∃ x, s1[i]? = some (.own x) ∧ isL x = true ∧ Ev fa s1 fun k s2 => ∃ x a b, s2[i]? = some (.own x) ∧ setLD d k x = some (a, b) ∧ QF .nx (s2.set i (.own b)) := by
  unfold sSetL; simp only [ev_bnd, ev_ownIs, ev_modOwn, ev_sNx]
theorem ev_sPutD : Ev (sPutD i fa fb) s QF ↔ Ev fb s fun d s1 => ∃ x, s1[i]? = some (.own x) ∧ isDc x = true ∧ Ev fa s1 fun k s2 => ∃ x a b, s2[i]? = some (.own x) ∧ setDD d k x = some (a, b) ∧ QF .nx (s2.set i (.own b)) := by
  unfold sPutD; simp only [ev_bnd, ev_ownIs, ev_modOwn, ev_sNx]
theorem ev_sAugL : Ev (sAugL g i fa fb) s QF ↔ ∃ x, s[i]? = some (.own x) ∧ isL x = true ∧ Ev fa s fun k s2 => Ev (eOwn i) s2 fun xs s3 => ∃ x, ixL k xs = some x ∧ Ev fb s3 fun y s4 => ∃ z, g x y = some z ∧ ∃ x a b, s4[i]? = some (.own x) ∧ setLD z k x = some (a, b) ∧ QF .nx (s4.set i (.own b)) := by
  unfold sAugL; rw [ev_bnd, ev_bnd, ev_ownIs]; simp only [ev_bnd, ev_modOwn, ev_sNx, ev_opt]
theorem ev_sSetF {C : Nat} {n : Str} : Ev (sSetF C i n fa) s QF ↔ Ev fa s fun d s1 => ∃ x, s1[i]? = some (.own x) ∧ isOb C x = true ∧ ∃ x a b, s1[i]? = some (.own x) ∧ setFD C n d x = some (a, b) ∧ QF .nx (s1.set i (.own b)) := by
  unfold sSetF; simp only [ev_bnd, ev_ownIs, ev_modOwn, ev_sNx]
theorem ev_sPar {j : Nat} {b1 b2 : Bool} : Ev (sPar i j b1 b2 fa fb) s QF ↔ Ev fa s fun x s1 => Ev fb s1 fun y s2 => i < s2.length ∧ j < s2.length ∧ QF .nx ((s2.set i (parSlot b1 x)).set j (parSlot b2 y)) := by
  unfold sPar setPar; simp only [ev_bnd, ev_sSeq, ev_setS, ev_seqK_nx, List.length_set]
theorem ev_eCall {h : PF} {dds : List D} : Ev (eCall h dds fr) s Q ↔ Ev fr s fun ds s1 => ∃ d, h (ds ++ dds) = .ok d ∧ Q d s1 := by
  unfold eCall; simp only [ev_bnd, ev_opt]
  constructor <;> (intro q; refine q.mono fun ds s1 ⟨d, e, q⟩ => ⟨d, ?_, q⟩)
  · cases hh : h (ds ++ dds) <;> simp_all [okFR]
  · simp [e, okFR]
theorem ev_eCallI {h : IOF} : Ev (eCallI i h fr) s Q ↔ ∃ x, s[i]? = some (.own x) ∧ Ev fr s fun ds s1 => ∃ x d x', s1[i]? = some (.own x) ∧ h x ds = .ok d x' ∧ Q d (s1.set i (.own x')) := by
  unfold eCallI; rw [ev_bnd, ev_ownIs]; simp only [ev_bnd, tyAny, true_and]
  have key : ∀ ds s1, Ev (modI i fun x => h x ds) s1 Q ↔ ∃ x d x', s1[i]? = some (.own x) ∧ h x ds = .ok d x' ∧ Q d (s1.set i (.own x')) := by
    intro ds s1
    unfold Ev modI
    cases e : s1[i]? with
    | none => simp
    | some sl =>
      cases sl with
      | own x =>
        cases e2 : h x ds with
        | ok v x' =>
          constructor
          · intro q; exact ⟨_, _, _, rfl, e2, by simpa [e2] using q⟩
          · rintro ⟨x1, d, x2, e3, e4, q⟩
            cases e3; rw [e2] at e4; cases e4; simpa [e2] using q
        | exc _ _ => simp [e2]
        | no => simp [e2]
      | _ => simp
  simp only [key]
theorem ev_eMake {C : Nat} {h : IOF} {dds : List D} : Ev (eMake C h dds fr) s Q ↔ Ev fr s fun ds s1 => ∃ x', h (.obj C []) (ds ++ dds) = .ok .non x' ∧ Q x' s1 := by
  unfold eMake; simp only [ev_bnd]
  have key : ∀ ds s1, Ev (fun s => match h (.obj C []) (ds ++ dds) with
      | .ok .non x' => .ok x' s
      | _ => .no) s1 Q ↔ ∃ x', h (.obj C []) (ds ++ dds) = .ok .non x' ∧ Q x' s1 := by
    intro ds s1
    unfold Ev
    cases hh : h (.obj C []) (ds ++ dds) with
    | ok v x => cases v <;> simp
    | exc _ _ => simp
    | no => simp
  constructor <;> (intro q; refine q.mono fun ds s1 q => ?_)
  · exact (key ds s1).1 q
  · exact (key ds s1).2 q
theorem ev_eCallY {h : PFY} {dds : List D} : Ev (eCallY h dds fr) s QL ↔ Ev fr s fun ds s1 => ∃ os, h (ds ++ dds) = some os ∧ QL os s1 := by
  unfold eCallY; simp only [ev_bnd, ev_opt]
theorem ev_jFold_nil {acc : Str} {QS : Str → Sl → Prop} : Ev (jFold [] acc) s QS ↔ QS acc s := ev_ret
theorem ev_jFold_cons {f : M D} {fs : List (M D)} {acc : Str} {QS : Str → Sl → Prop} : Ev (jFold (f :: fs) acc) s QS ↔ Ev f s fun d s1 => ∃ y, d = .str y ∧ (acc ++ y).length ≤ sizeLine ∧ Ev (jFold fs (acc ++ y)) s1 QS := by
  rw [show jFold (f :: fs) acc = bnd f fun d => bnd (opt (jAdd acc d)) fun a => jFold fs a from rfl]
  simp only [ev_bnd, ev_opt]
  constructor <;> (intro q; refine q.mono fun d s1 q => ?_)
  · obtain ⟨x, e, q⟩ := q
    cases d <;> simp [jAdd] at e
    obtain ⟨e1, rfl⟩ := e
    exact ⟨_, rfl, e1, q⟩
  · obtain ⟨y, rfl, e, q⟩ := q
    exact ⟨acc ++ y, by simp [jAdd, e], q⟩
theorem ev_eJoined {fs : List (M D)} : Ev (eJoined fs) s Q ↔ Ev (jFold fs Str.empty) s fun a s1 => Q (.str a) s1 := by simp [ev_bnd, ev_opt, ev_ret, ev_sNx, ev_setS, eJoined]
theorem ev_sFor {fi : M (List D)} {tg : D → M Fl} {fg : List Nat} : Ev (sFor fi tg fg a) s QF ↔ Ev fi s fun ds s1 => Ev (forL tg fg a ds) s1 QF := by simp [ev_bnd, ev_opt, ev_ret, ev_sNx, ev_setS, sFor]
end
/-! loops -/
section
variable {s : Sl} {tg : D → M Fl} {fg : List Nat} {body : M Fl} {Q : Fl → Sl → Prop}
/-- how a turn may end -/
def Turn (fg : List Nat) (I : Sl → Prop) (Q : Fl → Sl → Prop) : Fl → Sl → Prop
  | .nx, s => I (clr fg s)
  | .ct, s => I (clr fg s)
  | .bk, s => Q .nx s
  | .rt d, s => Q (.rt d) s
@[simp] theorem turn_nx {I : Sl → Prop} : Turn fg I Q .nx s ↔ I (clr fg s) := Iff.rfl
@[simp] theorem turn_ct {I : Sl → Prop} : Turn fg I Q .ct s ↔ I (clr fg s) := Iff.rfl
@[simp] theorem turn_bk {I : Sl → Prop} : Turn fg I Q .bk s ↔ Q .nx s := Iff.rfl
@[simp] theorem turn_rt {I : Sl → Prop} {d : D} : Turn fg I Q (.rt d) s ↔ Q (.rt d) s := Iff.rfl
theorem ev_forK_nx {k : M Fl} : Ev (forK k fg .nx) s Q ↔ Ev k (clr fg s) Q := by unfold Ev; exact Iff.rfl
theorem ev_forK_ct {k : M Fl} : Ev (forK k fg .ct) s Q ↔ Ev k (clr fg s) Q := by unfold Ev; exact Iff.rfl
theorem ev_forK_bk {k : M Fl} : Ev (forK k fg .bk) s Q ↔ Q .nx s := ev_sNx
theorem ev_forK_rt {k : M Fl} {d : D} : Ev (forK k fg (.rt d)) s Q ↔ Q (.rt d) s := ev_ret
theorem ev_forL_cons {d : D} {ds : List D} : Ev (forL tg fg body (d :: ds)) s Q ↔ Ev (sSeq (tg d) body) s (Turn fg (fun s => Ev (forL tg fg body ds) s Q) Q) := by
  rw [show forL tg fg body (d :: ds) = bnd (sSeq (tg d) body) (forK (forL tg fg body ds) fg) from rfl, ev_bnd]
  constructor <;> (intro q; refine q.mono fun fl s1 q => ?_)
  · cases fl with
    | nx => exact ev_forK_nx.1 q
    | ct => exact ev_forK_ct.1 q
    | bk => exact ev_forK_bk.1 q
    | rt d => exact (ev_forK_rt (Q := Q)).1 q
  · cases fl with
    | nx => exact ev_forK_nx.2 q
    | ct => exact ev_forK_ct.2 q
    | bk => exact ev_forK_bk.2 q
    | rt d => exact ev_forK_rt.2 q
theorem ev_for {β : Type} {enc : β → D} (I : List β → List β → Sl → Prop) {xs : List β} (h0 : I [] xs s)
    (hs : ∀ pre x post s, pre ++ x :: post = xs → I pre (x :: post) s → Ev (sSeq (tg (enc x)) body) s (Turn fg (I (pre ++ [x]) post) Q)) (he : ∀ s, I xs [] s → Q .nx s) : Ev (forL tg fg body (xs.map enc)) s Q := by
  have key : ∀ post pre s, pre ++ post = xs → I pre post s → Ev (forL tg fg body (post.map enc)) s Q := by
    intro post
    induction post with
    | nil => intro pre s e h; rw [List.append_nil] at e; subst e; exact ev_sNx.2 (he s h)
    | cons x post ih =>
      intro pre s e h
      rw [List.map_cons, ev_forL_cons]
      refine (hs pre x post s e h).mono fun fl s1 q => ?_
      cases fl with
      | nx => exact ih _ _ (by simpa using e) q
      | ct => exact ih _ _ (by simpa using e) q
      | bk => exact q
      | rt d => exact q
  exact key xs [] s rfl h0
/-- over what range(n) gives -/
theorem ev_forR (I : Nat → Sl → Prop) {lo : Int} {n : Nat} (h0 : I 0 s) (hs : ∀ i s, i < n → I i s → Ev (sSeq (tg (.int (lo + i))) body) s (Turn fg (I (i + 1)) Q)) (he : ∀ s, I n s → Q .nx s) : Ev (forL tg fg body (rngD lo n)) s Q := by
  refine ev_for (enc := fun (i : Nat) => D.int (lo + i)) (xs := List.range n) (fun pre post s => I pre.length s ∧ pre ++ post = List.range n) ⟨h0, rfl⟩ (fun pre x post s e h => ?_) fun s h => he s (by simpa using h.1)
  have hx : x = pre.length := by
    have := congrArg (fun l => l[pre.length]?) e
    simp at this
    by_cases z : pre.length < n
    · rw [List.getElem?_range z] at this; simpa using this
    · have := congrArg List.length e; simp at this; omega
  subst hx
  have hl : pre.length < n := by have := congrArg List.length e; simp at this; omega
  refine (hs _ s hl h.1).mono fun fl s1 q => ?_
  cases fl with
  | nx => exact ⟨by simpa using q, by simpa using e⟩
  | ct => exact ⟨by simpa using q, by simpa using e⟩
  | bk => exact q
  | rt d => exact q
theorem ev_while {c : M Bool} (I : Nat → Sl → Prop) (hs : ∀ k s, I k s → Ev c s fun b s1 => if b = true then Ev body s1 (Turn fg (fun s2 => ∃ k', k' < k ∧ I k' s2) Q) else Q .nx s1) : ∀ n k s, k < n → I k s → Ev (whN c fg body n) s Q := by
  intro n
  induction n with
  | zero => intro k s h; omega
  | succ n ih =>
    intro k s hk h
    unfold whN
    rw [ev_bnd]
    refine (hs k s h).mono fun b s1 q => ?_
    cases b with
    | false => exact ev_sNx.2 (by simpa [ev_ret] using q)
    | true =>
      simp only [if_true] at q ⊢
      rw [ev_bnd]
      refine q.mono fun fl s2 q => ?_
      cases fl with
      | nx => obtain ⟨k', h1, h2⟩ := q; exact ev_forK_nx.2 (ih k' _ (by omega) h2)
      | ct => obtain ⟨k', h1, h2⟩ := q; exact ev_forK_ct.2 (ih k' _ (by omega) h2)
      | bk => exact ev_forK_bk.2 q
      | rt d => exact ev_forK_rt.2 q
end
/-! comprehensions -/
@[simp] theorem clr_nil {s : Sl} : clr [] s = s := rfl
@[simp] theorem clr_cons {v : Nat} {vs : List Nat} {s : Sl} : clr (v :: vs) s = (clr vs s).set v .un := rfl
@[simp] theorem rst_nil {s t : Sl} : rst s [] t = t := rfl
@[simp] theorem rst_cons {v : Nat} {vs : List Nat} {s t : Sl} : rst s (v :: vs) t = (rst s vs t).set v (s.getD v .un) := rfl
theorem rst_clr {vs : List Nat} {s : Sl} : rst s vs (clr vs s) = s := by
  apply List.ext_getElem?
  intro j
  have key : ∀ (us : List Nat) (t : Sl), t.length = s.length → (rst s us t)[j]? = if j ∈ us then s[j]? else t[j]? := by
    intro us
    induction us with
    | nil => intro t _; simp
    | cons v us ih =>
      intro t ht
      rw [rst_cons, List.getElem?_set, rst_len, ht]
      by_cases h : v = j
      · subst h
        by_cases h2 : v < s.length
        · simp [h2]
        · simp [h2]
      · rw [if_neg h, ih t ht]
        by_cases h3 : j ∈ us <;> simp [h3, Ne.symm h]
  rw [key vs _ (clr_len ..)]
  by_cases h : j ∈ vs
  · simp [h]
  · simp [h, clr_get.2 h]
theorem ev_blk {α : Type} {vs : List Nat} {m : M α} {s : Sl} {Q : α → Sl → Prop} : Ev (blk vs m) s Q ↔ (vs.all fun v => notOwn (s.getD v .un)) = true ∧ Ev m (clr vs s) fun a s' => Q a (rst s vs s') := by
  unfold Ev blk
  split
  · rename_i h
    simp only [h, true_and]
    cases e2 : m (clr vs s) <;> simp [unb]
  · rename_i h; simp only [h, evR_no, false_and, Bool.false_eq_true]
section
variable {s : Sl} {tg : D → M Fl} {ct : M Bool} {act : D → M D} {vs : List Nat} {Q : D → Sl → Prop}
theorem ev_compF_cons {d : D} {ds : List D} {x : D} : Ev (compF tg ct act vs (d :: ds) x) s Q ↔ Ev (tg d) s fun _ s1 => Ev ct s1 fun k s2 => if k = true then Ev (act x) s2 fun y s3 => Ev (compF tg ct act vs ds y) (clr vs s3) Q else Ev (compF tg ct act vs ds x) (clr vs s2) Q := by
  rw [show compF tg ct act vs (d :: ds) x = bnd (tg d) fun _ => bnd ct fun k => if k = true then bnd (act x) fun y => bnd (sClr vs) fun _ => compF tg ct act vs ds y else bnd (sClr vs) fun _ => compF tg ct act vs ds x from rfl, ev_bnd]
  constructor <;> (intro q; refine q.mono fun _ s1 q => ?_)
  · rw [ev_bnd] at q
    refine q.mono fun k s2 q => ?_
    cases k <;> simpa [ev_bnd, ev_sClr] using q
  · rw [ev_bnd]
    refine q.mono fun k s2 q => ?_
    cases k <;> simpa [ev_bnd, ev_sClr] using q
/-- a comprehension in general -/
theorem ev_compF {β : Type} {enc : β → D} (I : List β → List β → D → Sl → Prop) {xs : List β} {x : D} (h0 : I [] xs x s)
    (hs : ∀ pre b post x s, pre ++ b :: post = xs → I pre (b :: post) x s → Ev (tg (enc b)) s fun _ s1 => Ev ct s1 fun k s2 => if k = true then Ev (act x) s2 fun y s3 => I (pre ++ [b]) post y (clr vs s3) else I (pre ++ [b]) post x (clr vs s2))
    (he : ∀ x s, I xs [] x s → Q x s) : Ev (compF tg ct act vs (xs.map enc) x) s Q := by
  have key : ∀ post pre x s, pre ++ post = xs → I pre post x s → Ev (compF tg ct act vs (post.map enc) x) s Q := by
    intro post
    induction post with
    | nil => intro pre x s e h; rw [List.append_nil] at e; subst e; exact ev_ret.2 (he x s h)
    | cons b post ih =>
      intro pre x s e h
      rw [List.map_cons, ev_compF_cons]
      refine (hs pre b post x s e h).mono fun _ s1 q => q.mono fun k s2 q => ?_
      cases k with
      | false => simp only [Bool.false_eq_true, if_false] at q ⊢; exact ih _ _ _ (by simpa using e) q
      | true => simp only [if_true] at q ⊢; exact q.mono fun y s3 q => ih _ _ _ (by simpa using e) q
  exact key xs [] x s rfl h0
theorem ev_eCompG {fi : M (List D)} {x0 : D} : Ev (eCompG x0 fi tg ct act vs) s Q ↔ Ev fi s fun ds s1 => (vs.all fun v => notOwn (s1.getD v .un)) = true ∧ Ev (compF tg ct act vs ds x0) (clr vs s1) fun a s' => Q a (rst s1 vs s') := by
  unfold eCompG; simp only [ev_bnd, ev_blk]
theorem filter_yes {β : Type} (xs : List β) : xs.filter (fun _ => true) = xs := List.filter_eq_self.2 fun _ _ => rfl
/-- [y(x) for x in xs if p(x)], nothing is changed -/
theorem ev_comp {fi : M (List D)} {fe : M D} {β : Type} {enc : β → D} (xs : List β) (p : β → Bool) (y : β → D) (hfi : Ev fi s fun ds s1 => ds = xs.map enc ∧ s1 = s) (hno : (vs.all fun v => notOwn (s.getD v .un)) = true) (hl : xs.length ≤ 16777216)
    (hs : ∀ x ∈ xs, Ev (tg (enc x)) (clr vs s) fun _ s1 => clr vs s1 = clr vs s ∧ Ev ct s1 fun k s2 => s2 = s1 ∧ k = p x ∧ (p x = true → Ev fe s1 fun d s3 => d = y x ∧ s3 = s1)) (q : Q (.lst ((xs.filter p).map y)) s) : Ev (eComp fi tg ct fe vs) s Q := by
  unfold eComp
  rw [ev_eCompG]
  refine hfi.mono ?_
  rintro ds s9 ⟨e1, e2⟩
  subst e1 e2
  refine ⟨hno, ?_⟩
  refine ev_compF (fun pre post x s' => s' = clr vs s9 ∧ x = .lst ((pre.filter p).map y)) ⟨rfl, rfl⟩ ?_ ?_
  · rintro pre b post x s' e ⟨rfl, rfl⟩
    refine (hs b (by rw [← e]; simp)).mono ?_
    rintro _ s1 ⟨e1, h⟩
    refine h.mono ?_
    rintro k s2 ⟨rfl, rfl, h⟩
    cases hp : p b with
    | false => simp [e1, hp]
    | true =>
      simp only [if_true]
      unfold act1
      rw [ev_bnd]
      refine (h hp).mono ?_
      rintro d s3 ⟨rfl, rfl⟩
      rw [ev_opt]
      refine ⟨.lst ((pre.filter p).map y ++ [y b]), ?_, e1, ?_⟩
      · have h1 : (pre.filter p).length ≤ pre.length := List.length_filter_le ..
        have h2 := congrArg List.length e
        simp at h2
        simp only [pushD]
        rw [if_pos]
        rw [List.length_map, sizeLine_eq]; omega
      · simp [hp]
  · rintro x s' ⟨rfl, rfl⟩
    rw [rst_clr]; exact q
/-- without a test -/
theorem ev_map {fi : M (List D)} {fe : M D} {β : Type} {enc : β → D} (xs : List β) (y : β → D) (hfi : Ev fi s fun ds s1 => ds = xs.map enc ∧ s1 = s) (hno : (vs.all fun v => notOwn (s.getD v .un)) = true) (hl : xs.length ≤ 16777216)
    (hs : ∀ x ∈ xs, Ev (tg (enc x)) (clr vs s) fun _ s1 => clr vs s1 = clr vs s ∧ Ev fe s1 fun d s3 => d = y x ∧ s3 = s1) (q : Q (.lst (xs.map y)) s) : Ev (eComp fi tg (ret true) fe vs) s Q := by
  refine ev_comp xs (fun _ => true) y hfi hno hl (fun x hx => (hs x hx).mono fun _ s1 h => ⟨h.1, ?_⟩) (by rw [filter_yes]; exact q)
  rw [ev_ret]; exact ⟨rfl, rfl, fun _ => h.2⟩
end
end DL

/-! ## EVb -/
/-! EVb: the operators over data, at data in constructor form. -/
namespace DL
open PySem L2
/-! ### numbers -/
@[simp] theorem addD_int {a b : Int} : addD (.int a) (.int b) = some (.int (a + b)) := rfl
@[simp] theorem subD_int {a b : Int} : subD (.int a) (.int b) = some (.int (a - b)) := rfl
theorem mulD_int {a b : Int} (h : MulOk a b) : mulD (.int a) (.int b) = some (.int (a * b)) := by
  show orD mulI repL _ _ = _
  have : mulI (.int a) (.int b) = some (.int (a * b)) := if_pos h
  simp [orD, this]
theorem mulOk_r {a b : Int} (h1 : -(2 ^ 64) < b) (h2 : b < 2 ^ 64) : MulOk a b := .inl (.inr ⟨h1, h2⟩)
theorem mulOk_l {a b : Int} (h1 : -(2 ^ 64) < a) (h2 : a < 2 ^ 64) : MulOk a b := .inl (.inl ⟨h1, h2⟩)
@[simp] theorem mulD_num {a : Int} {n : Nat} (h : n < 2 ^ 64) : mulD (.int a) (.int (n : Int)) = some (.int (a * n)) := mulD_int (mulOk_r (by omega) (by omega))
theorem divD_int {a b : Int} (h : 0 < b) (h2 : b.natAbs.log2 < 9000) : divD (.int a) (.int b) = some (.int (a / b)) := if_pos ⟨h, h2⟩
theorem modD_int {a b : Int} (h : 0 < b) : modD (.int a) (.int b) = some (.int (a % b)) := if_pos h
theorem powD_int {a b : Int} (h : PowOk a b) : powD (.int a) (.int b) = some (.int (a ^ b.toNat)) := if_pos h
theorem shlD_int {a b : Int} (h : PowOk a b) : shlD (.int a) (.int b) = some (.int (a * 2 ^ b.toNat)) := if_pos h
theorem shrD_int {a b : Int} (h : 0 ≤ b) : shrD (.int a) (.int b) = some (.int (a / 2 ^ b.toNat)) := if_pos h
@[simp] theorem bandD_int {a b : Int} : bandD (.int a) (.int b) = some (.int (Builtin.bitAnd a b)) := rfl
@[simp] theorem borD_int {a b : Int} : borD (.int a) (.int b) = some (.int (Builtin.bitOr a b)) := rfl
@[simp] theorem ltD_int {a b : Int} : ltD (.int a) (.int b) = some (.bl (decide (a < b))) := rfl
@[simp] theorem leD_int {a b : Int} : leD (.int a) (.int b) = some (.bl (decide (a ≤ b))) := rfl
@[simp] theorem gtD_int {a b : Int} : gtD (.int a) (.int b) = some (.bl (decide (b < a))) := rfl
@[simp] theorem geD_int {a b : Int} : geD (.int a) (.int b) = some (.bl (decide (b ≤ a))) := rfl
@[simp] theorem negD_int {a : Int} : negD (.int a) = some (.int (-a)) := rfl
@[simp] theorem invD_int {a : Int} : invD (.int a) = some (.int (Builtin.bitNot a)) := rfl
@[simp] theorem intD_int {a : Int} : intD (.int a) = some (.int a) := rfl
@[simp] theorem asI_int {a : Int} : asI (.int a) = some (some a) := rfl
@[simp] theorem min2D_int {a b : Int} : min2D (.int a) (.int b) = some (.int (if b < a then b else a)) := rfl
@[simp] theorem max2D_int {a b : Int} : max2D (.int a) (.int b) = some (.int (if b > a then b else a)) := rfl
@[simp] theorem bitsD_int {a : Int} : bitsD (.int a) = some (.int (Builtin.Int.intBits a : Nat)) := rfl
@[simp] theorem asStr_str {z : Str} : asStr (.str z) = some () := rfl
@[simp] theorem asLst_lst {ds : List D} : asLst (.lst ds) = some () := rfl
@[simp] theorem mkRngD_int {a : Int} : mkRngD (.int a) = some (.rng 0 a) := rfl
/-! ### truth -/
@[simp] theorem asBl_bl {b : Bool} : asBl (.bl b) = some b := rfl
@[simp] theorem truD_bl {b : Bool} : truD (.bl b) = some b := rfl
@[simp] theorem truD_int {i : Int} : truD (.int i) = some (i != 0) := rfl
@[simp] theorem truD_lst {ds : List D} : truD (.lst ds) = some (!ds.isEmpty) := rfl
@[simp] theorem truD_tup {ds : List D} : truD (.tup ds) = some (!ds.isEmpty) := rfl
@[simp] theorem truD_non : truD .non = some false := rfl
@[simp] theorem isNonD_eq {d : D} : isNonD d = some (.bl (dNon d)) := rfl
@[simp] theorem notNonD_eq {d : D} : notNonD d = some (.bl (!dNon d)) := rfl
@[simp] theorem dNon_lst {ds : List D} : dNon (.lst ds) = false := rfl
@[simp] theorem dNon_non : dNon .non = true := rfl
@[simp] theorem notD_bl {b : Bool} : notD (.bl b) = some (.bl (!b)) := rfl
@[simp] theorem isiStr_str {z : Str} : isiStr (.str z) = some (.bl true) := rfl
@[simp] theorem isL_lst {ds : List D} : isL (.lst ds) = true := rfl
@[simp] theorem isDc_dct {ds : List (Key × D)} : isDc (.dct ds) = true := rfl
@[simp] theorem isOb_obj {C : Nat} {fs : List (Str × D)} : isOb C (.obj C fs) = true := beq_self_eq_true C
@[simp] theorem notOwn_un : notOwn .un = true := rfl
@[simp] theorem notOwn_sh {d : D} : notOwn (.sh d) = true := rfl
@[simp] theorem parSlot_t {d : D} : parSlot true d = .own d := rfl
@[simp] theorem parSlot_f {d : D} : parSlot false d = .sh d := rfl
/-! ### texts -/
theorem addD_str {a b : Str} (h : a.length + b.length ≤ 16777216) : addD (.str a) (.str b) = some (.str (a ++ b)) := by
  have : addS (.str a) (.str b) = some (.str (a ++ b)) := if_pos h
  simp [addD, orD, i2, this]
theorem addD_lst {a b : List D} (h : a.length + b.length ≤ 16777216) : addD (.lst a) (.lst b) = some (.lst (a ++ b)) := by
  have : catL (.lst a) (.lst b) = some (.lst (a ++ b)) := if_pos h
  simp [addD, orD, i2, addS, catT, this]
theorem addD_tup {x : D} {a b : List D} (h : a.length + 1 + b.length ≤ 16777216) : addD (.tup (x :: a)) (.tup b) = some (.tup (x :: a ++ b)) := by
  have : catT (.tup (x :: a)) (.tup b) = some (.tup (x :: a ++ b)) := if_pos h
  simp [addD, orD, i2, addS, catL, this]
theorem catL_lst {a b : List D} (h : a.length + b.length ≤ 16777216) : catL (.lst a) (.lst b) = some (.lst (a ++ b)) := if_pos h
theorem repL_one {x : D} {n : Nat} (h : n ≤ 16777216) : repL (.lst [x]) (.int (n : Nat)) = some (.lst (List.replicate n x)) := by
  have e : ([x] : List D).length * ((n : Int)).toNat ≤ sizeLine := by rw [Int.toNat_natCast, sizeLine_eq]; simpa using h
  have e2 : repL (.lst [x]) (.int (n : Nat)) = some (.lst (List.replicate ((n : Int)).toNat [x]).flatten) := by
    simp only [repL]; rw [if_pos (by refine ⟨?_, ?_, e⟩ <;> omega)]
  have e3 : ∀ m : Nat, (List.replicate m [x]).flatten = List.replicate m x := by
    intro m
    induction m with
    | zero => rfl
    | succ m ih => rw [List.replicate_succ, List.flatten_cons, ih, List.replicate_succ]; rfl
  rw [e2, Int.toNat_natCast, e3]
@[simp] theorem lenD_lst {ds : List D} : lenD (.lst ds) = some (.int (ds.length : Nat)) := rfl
@[simp] theorem lenD_tup {ds : List D} : lenD (.tup ds) = some (.int (ds.length : Nat)) := rfl
theorem lenD_str {z : Str} (h : z.length ≤ 16777216) : lenD (.str z) = some (.int (z.length : Nat)) := if_pos h
@[simp] theorem listD_lst {ds : List D} : listD (.lst ds) = some (.lst ds) := rfl
@[simp] theorem listD_tup {ds : List D} : listD (.tup ds) = some (.lst ds) := rfl
@[simp] theorem tupleD_lst {ds : List D} : tupleD (.lst ds) = some (.tup ds) := rfl
@[simp] theorem tupleD_tup {ds : List D} : tupleD (.tup ds) = some (.tup ds) := rfl
theorem tupD_eq {ds : List D} (h : ds.length ≤ 16777216) : tupD ds = some (.tup ds) := if_pos h
theorem lstD_eq {ds : List D} (h : ds.length ≤ 16777216) : lstD ds = some (.lst ds) := if_pos h
@[simp] theorem tupD_2 {a b : D} : tupD [a, b] = some (.tup [a, b]) := tupD_eq (by simp)
@[simp] theorem tupD_1 {a : D} : tupD [a] = some (.tup [a]) := tupD_eq (by simp)
@[simp] theorem lstD_1 {a : D} : lstD [a] = some (.lst [a]) := lstD_eq (by simp)
@[simp] theorem seqItems_lst {ds : List D} : seqItems (.lst ds) = some ds := rfl
@[simp] theorem seqItems_tup {ds : List D} : seqItems (.tup ds) = some ds := rfl
@[simp] theorem seqItems_str {z : Str} : seqItems (.str z) = some (chD z) := rfl
@[simp] theorem seqL_lst {ds : List D} : seqL (.lst ds) = some ds := rfl
@[simp] theorem seqL_tup {ds : List D} : seqL (.tup ds) = some ds := rfl
@[simp] theorem enuU_lst {ds : List D} : enuU (.lst ds) = some (enuD ds) := rfl
@[simp] theorem enuU_tup {ds : List D} : enuU (.tup ds) = some (enuD ds) := rfl
theorem rng1D_nat {n : Nat} (h : n < 2 ^ 62) : rng1D (.int (n : Nat)) = some (rngD 0 n) := by
  have e : rng1D (.int (n : Nat)) = some (rngD 0 ((n : Int)).toNat) := by
    simp only [rng1D]; rw [if_pos (by constructor <;> omega)]
  rw [e, Int.toNat_natCast]
theorem rng2D_int {i j : Int} (h1 : -(2 ^ 62) ≤ i) (h2 : i < 2 ^ 62) (h3 : -(2 ^ 62) ≤ j) (h4 : j < 2 ^ 62) : rng2D (.int i) (.int j) = some (rngD i (j - i).toNat) := if_pos ⟨h1, h2, h3, h4⟩
theorem rngItems_eq {lo hi : Int} (h1 : -(2 ^ 62) ≤ lo) (h2 : lo < 2 ^ 62) (h3 : -(2 ^ 62) ≤ hi) (h4 : hi < 2 ^ 62) : rngItems (.rng lo hi) = some (rngD lo (hi - lo).toNat) := if_pos ⟨h1, h2, h3, h4⟩
theorem lrg1D_nat {n : Nat} (h : n ≤ 2 ^ 24) : lrg1D (.int (n : Nat)) = some (.lst (rngD 0 n)) := by
  have e : lrg1D (.int (n : Nat)) = some (.lst (rngD 0 ((n : Int)).toNat)) := by
    simp only [lrg1D]; rw [if_pos (by constructor <;> omega)]
  rw [e, Int.toNat_natCast]
theorem appD_lst {d : D} {ds : List D} (h : ds.length < 16777216) : appD d (.lst ds) = some (.non, .lst (ds ++ [d])) := if_pos h
/-! ### places -/
theorem atI_nat {α : Type} {xs : List α} {n : Nat} {x : α} (h : xs[n]? = some x) : atI xs (n : Int) = some x := by
  have hl : n < xs.length := (List.getElem?_eq_some_iff.1 h).1
  unfold atI ixN
  rw [if_pos (by omega), if_pos (by omega)]
  simpa using h
theorem atI_last {α : Type} {xs : List α} {x : α} : atI (xs ++ [x]) (-1) = some x := by
  unfold atI ixN
  rw [if_neg (by omega), if_pos (by simp; omega)]
  have : (-1 + ((xs ++ [x]).length : Int)).toNat = xs.length := by simp; omega
  rw [this]; simp
theorem ixD_lst {ds : List D} {i : Int} : ixD (.lst ds) (.int i) = atI ds i := rfl
theorem ixD_tup {ds : List D} {i : Int} : ixD (.tup ds) (.int i) = atI ds i := rfl
theorem ixD_l {ds : List D} {n : Nat} {d : D} (h : ds[n]? = some d) : ixD (.lst ds) (.int (n : Nat)) = some d := atI_nat h
theorem ixD_t {ds : List D} {n : Nat} {d : D} (h : ds[n]? = some d) : ixD (.tup ds) (.int (n : Nat)) = some d := atI_nat h
theorem ixD_s {z : Str} {n : Nat} {c : Nat} (hz : z.length ≤ 16777216) (h : z.cps.toList[n]? = some c) : ixD (.str z) (.int (n : Nat)) = some (.str ⟨#[c]⟩) := by
  have e : ixD (.str z) (.int (n : Nat)) = (atI z.cps.toList (n : Int)).map fun c => .str ⟨#[c]⟩ := if_pos hz
  rw [e, atI_nat h]; rfl
theorem setLD_nat {d : D} {ds : List D} {n : Nat} (h : n < ds.length) : setLD d (.int (n : Nat)) (.lst ds) = some (.non, .lst (ds.set n d)) := by
  have : ixN ds.length (n : Int) = some n := by unfold ixN; rw [if_pos (by omega), if_pos (by omega)]; simp
  simp [setLD, this]
theorem ixL_nat {ds : List D} {n : Nat} {d : D} (h : ds[n]? = some d) : ixL (.int (n : Nat)) (.lst ds) = some d := atI_nat h
theorem popD_snoc {ds : List D} {d : D} : popD (.lst (ds ++ [d])) = some (d, .lst ds) := by simp [popD]
theorem popAtD_nat {ds : List D} {n : Nat} {d : D} (h : ds[n]? = some d) (hn : n < 2 ^ 62) : popAtD (.int (n : Nat)) (.lst ds) = some (d, .lst (ds.eraseIdx n)) := by
  have hl : n < ds.length := (List.getElem?_eq_some_iff.1 h).1
  have e : seqIndex? (n : Int) ds.length = some n := by
    have := PySem.StrLaws.seqIndex_nonneg (i := (n : Int)) (n := ds.length) (by omega) (by omega)
    simpa using this
  have e2 : popAtD (.int (n : Nat)) (.lst ds) = (seqIndex? (n : Int) ds.length).bind fun k => (ds[k]?).map fun d => (d, .lst (ds.eraseIdx k)) := by
    simp only [popAtD]; rw [if_pos (by constructor <;> omega)]
  rw [e2, e]
  simp [h]
/-! ### fine data: what may be compared -/
structure Fine (k : Nat) (d : D) : Prop where
  pl : d.pl = true
  lay : d.py.canLay0 = true
  dep : d.py.depth ≤ k
theorem Fine.mono {k j : Nat} {d : D} (h : Fine k d) (l : k ≤ j) : Fine j d := ⟨h.pl, h.lay, Nat.le_trans h.dep l⟩
theorem fine_non {k : Nat} : Fine k .non := ⟨rfl, rfl, Nat.zero_le _⟩
theorem fine_bl {k : Nat} {b : Bool} : Fine k (.bl b) := ⟨rfl, rfl, Nat.zero_le _⟩
theorem fine_int {k : Nat} {i : Int} : Fine k (.int i) := ⟨rfl, rfl, Nat.zero_le _⟩
theorem fine_str {k : Nat} {z : Str} (h : PyData.strOk z = true) : Fine k (.str z) := ⟨rfl, by simpa [D.py, PyData.canLay0] using h, Nat.zero_le _⟩
theorem fine_list {k : Nat} {ds : List D} (h : ∀ d ∈ ds, Fine k d) : pls ds = true ∧ PyData.canLayAll0 (pys ds) = true ∧ PyData.depthAll (pys ds) ≤ k := by
  induction ds with
  | nil => exact ⟨rfl, rfl, Nat.zero_le _⟩
  | cons d ds ih =>
    obtain ⟨h1, h2, h3⟩ := ih fun d hd => h d (by simp [hd])
    have hd := h d (by simp)
    refine ⟨by simp [pls, hd.pl, h1], by simp [pys, PyData.canLayAll0, hd.lay, h2], ?_⟩
    simp only [pys, PyData.depthAll]
    exact Nat.max_le.2 ⟨hd.dep, h3⟩
theorem fine_lst {k : Nat} {ds : List D} (h : ∀ d ∈ ds, Fine k d) : Fine (k + 1) (.lst ds) := by
  obtain ⟨h1, h2, h3⟩ := fine_list h
  exact ⟨h1, by simpa [D.py, PyData.canLay0] using h2, by simpa [D.py, PyData.depth] using h3⟩
theorem fine_tup {k : Nat} {ds : List D} (h : ∀ d ∈ ds, Fine k d) : Fine (k + 1) (.tup ds) := by
  obtain ⟨h1, h2, h3⟩ := fine_list h
  exact ⟨h1, by simpa [D.py, PyData.canLay0] using h2, by simpa [D.py, PyData.depth] using h3⟩
theorem Fine.ok {d : D} (h : Fine 64 d) : okD d = true := by
  unfold okD SeqAt.shaped
  rw [h.pl, h.lay]
  simpa using h.dep
theorem eqD_fine {x y : D} (hx : Fine 64 x) (hy : Fine 64 y) : eqD x y = some (.bl (PyData.eqv x.py y.py)) := by
  unfold eqD; rw [hx.ok, hy.ok]; rfl
theorem neD_fine {x y : D} (hx : Fine 64 x) (hy : Fine 64 y) : neD x y = some (.bl (!PyData.eqv x.py y.py)) := by
  unfold neD; rw [hx.ok, hy.ok]; rfl
@[simp] theorem eqD_int {a b : Int} : eqD (.int a) (.int b) = some (.bl (a == b)) := by
  rw [eqD_fine fine_int fine_int]; simp [D.py, PyData.eqv]
@[simp] theorem neD_int {a b : Int} : neD (.int a) (.int b) = some (.bl (!(a == b))) := by
  rw [neD_fine fine_int fine_int]; simp [D.py, PyData.eqv]
@[simp] theorem eqD_bl {a b : Bool} : eqD (.bl a) (.bl b) = some (.bl (a == b)) := by
  rw [eqD_fine fine_bl fine_bl]; simp [D.py, PyData.eqv]
@[simp] theorem neD_bl {a b : Bool} : neD (.bl a) (.bl b) = some (.bl (!(a == b))) := by
  rw [neD_fine fine_bl fine_bl]; simp [D.py, PyData.eqv]
theorem eqD_str {a b : Str} (ha : PyData.strOk a = true) (hb : PyData.strOk b = true) : eqD (.str a) (.str b) = some (.bl (a == b)) := by
  rw [eqD_fine (fine_str ha) (fine_str hb)]; simp [D.py, PyData.eqv]
theorem neD_str {a b : Str} (ha : PyData.strOk a = true) (hb : PyData.strOk b = true) : neD (.str a) (.str b) = some (.bl (!(a == b))) := by
  rw [neD_fine (fine_str ha) (fine_str hb)]; simp [D.py, PyData.eqv]
mutual
theorem eqv_refl : ∀ d : D, d.pl = true → PyData.eqv d.py d.py = true
  | .non, _ => by simp [D.py, PyData.eqv]
  | .bl _, _ => by simp [D.py, PyData.eqv]
  | .int _, _ => by simp [D.py, PyData.eqv]
  | .str _, _ => by simp [D.py, PyData.eqv]
  | .tup ds, h => by simp only [D.py, PyData.eqv]; exact eqvAll_refl ds h
  | .lst ds, h => by simp only [D.py, PyData.eqv]; exact eqvAll_refl ds h
  | .scr _, h => by cases h
  | .rng _ _, h => by cases h
  | .dct _, h => by cases h
  | .obj _ _, h => by cases h
theorem eqvAll_refl : ∀ ds : List D, pls ds = true → PyData.eqvAll (pys ds) (pys ds) = true
  | [], _ => by simp [pys, PyData.eqvAll]
  | d :: ds, h => by
    simp only [pls, Bool.and_eq_true] at h
    simp only [pys, PyData.eqvAll, eqv_refl d h.1, eqvAll_refl ds h.2, Bool.and_self]
end
/-! ### in -/
theorem inT_lst {x : D} {ds : List D} (hx : Fine 64 x) (hd : ∀ d ∈ ds, Fine 63 d) : inT x (.lst ds) = some (inTupD ds x) := by
  show (if _ then _ else _) = _
  rw [hx.ok, (fine_lst hd).ok]; rfl
theorem inT_tup {x : D} {ds : List D} (hx : flatD x = true) (hd : ∀ d ∈ ds, flatD d = true) : inT x (.tup ds) = some (inTupD ds x) := by
  show (if _ then _ else _) = _
  rw [hx, List.all_eq_true.2 hd]; rfl
theorem inT_char {c : Nat} {z : Str} : inT (.str ⟨#[c]⟩) (.str z) = some (decide (c ∈ z.cps.toList)) := by
  show some _ = _
  rw [PySem.StrLaws.found_one]
theorem inTup_map {β : Type} [DecidableEq β] {enc : β → D} {l : List β} {x : β} (h : ∀ a ∈ l, PyData.eqv (enc a).py (enc x).py = decide (a = x)) : inTupD (l.map enc) (enc x) = decide (x ∈ l) := by
  unfold inTupD
  rw [List.any_map]
  induction l with
  | nil => rfl
  | cons a l ih =>
    have h1 := h a (by simp)
    rw [List.any_cons, ih fun b hb => h b (by simp [hb])]
    simp only [Function.comp, h1, List.mem_cons]
    have e0 : (x = a) = (a = x) := propext eq_comm
    by_cases e : a = x <;> by_cases e2 : x ∈ l <;> simp [e, e2, e0]
theorem eqv_int {a b : Int} : PyData.eqv (D.int a).py (D.int b).py = decide (a = b) := by
  simp only [D.py, PyData.eqv]; rfl
theorem eqv_str {a b : Str} : PyData.eqv (D.str a).py (D.str b).py = decide (a = b) := by
  simp only [D.py, PyData.eqv]; rfl
theorem eqv_lst_nil {ds : List D} : PyData.eqv (D.lst ds).py (D.lst []).py = ds.isEmpty := by
  cases ds <;> simp [D.py, pys, PyData.eqv, PyData.eqvAll]
theorem eqD_lst_nil {ds : List D} (h : ∀ d ∈ ds, Fine 63 d) : eqD (.lst ds) (.lst []) = some (.bl ds.isEmpty) := by
  rw [eqD_fine (fine_lst h) (fine_lst (by simp)), eqv_lst_nil]
/-! ### slices -/
@[simp] theorem sIx_none {n d : Nat} : HT.sIx n d none = d := rfl
theorem sIx_nat {n d k : Nat} : HT.sIx n d (some (k : Int)) = min k n := HT.sIx_nat n d k
theorem slD_lst {ds : List D} {lo hi : Option Int} : slD (.lst ds) lo hi = some (.lst (cutD ds lo hi)) := rfl
theorem slD_scr {ns : List Int} {lo hi : Option Int} : slD (.scr ns) lo hi = some (.lst ((cutD ns lo hi).map .int)) := rfl
theorem slD_str {z : Str} {lo hi : Option Int} (h : z.length ≤ 16777216) : slD (.str z) lo hi = some (.str (cutS z lo hi)) := by
  have : slS (.str z) lo hi = some (.str (cutS z lo hi)) := if_pos h
  simp [slD, orSl, slL, slT, this]
theorem cutD_to {α : Type} {xs : List α} {n : Nat} : cutD xs none (some (n : Int)) = xs.take n := by
  unfold cutD
  rw [sIx_nat]
  simp only [sIx_none, List.drop_zero, Nat.sub_zero]
  by_cases h : n ≤ xs.length
  · rw [Nat.min_eq_left h]
  · rw [Nat.min_eq_right (by omega), List.take_of_length_le (by omega), List.take_of_length_le (by omega)]
theorem cutD_from {α : Type} {xs : List α} {n : Nat} : cutD xs (some (n : Int)) none = xs.drop n := by
  unfold cutD
  rw [sIx_nat]
  simp only [sIx_none]
  by_cases h : n ≤ xs.length
  · rw [Nat.min_eq_left h, List.take_of_length_le (by simp)]
  · rw [Nat.min_eq_right (by omega), List.drop_of_length_le (by omega), List.drop_of_length_le (by omega)]; simp
theorem cutS_to {z : Str} {n : Nat} : (cutS z none (some (n : Int))).cps.toList = z.cps.toList.take n := by
  unfold cutS
  rw [sIx_nat]
  simp only [sIx_none, List.drop_zero, Nat.sub_zero]
  have hz : z.cps.toList.length = z.length := by simp [Str.length]
  by_cases h : n ≤ z.length
  · rw [Nat.min_eq_left h]
  · rw [Nat.min_eq_right (by omega), List.take_of_length_le (by omega), List.take_of_length_le (by omega)]
theorem slD_to {ds : List D} {n : Nat} : slD (.lst ds) none (some (n : Int)) = some (.lst (ds.take n)) := by rw [slD_lst, cutD_to]
theorem slD_from {ds : List D} {n : Nat} : slD (.lst ds) (some (n : Int)) none = some (.lst (ds.drop n)) := by rw [slD_lst, cutD_from]
/-! ### sorted -/
theorem sortD_eq {ds : List D} (h : sortOk ds = true) : sortD (.lst ds) = some (.lst (ds.mergeSort leD')) := if_pos h
theorem sort_map {β : Type} {enc : β → D} {l : List β} : ∃ l' : List β, (l.map enc).mergeSort leD' = l'.map enc ∧ l'.Perm l :=
  ⟨l.mergeSort fun a b => leD' (enc a) (enc b), (List.map_mergeSort (r := fun a b => leD' (enc a) (enc b)) (s := leD') (f := enc) (fun _ _ _ _ => rfl)).symm, List.mergeSort_perm _ _⟩
theorem blsD_map {β : Type} {g : β → Bool} {l : List β} : blsD (l.map fun x => .bl (g x)) = some (l.map g) := by
  induction l with
  | nil => rfl
  | cons a l ih => simp [blsD, ih]
theorem strsD_map {l : List Str} : strsD (l.map .str) = some l := by
  induction l with
  | nil => rfl
  | cons a l ih => simp [strsD, ih]
theorem intsD_map {l : List Int} : intsD (l.map .int) = some l := by
  induction l with
  | nil => rfl
  | cons a l ih => simp [intsD, ih]
theorem joinD_lst {a : Str} {l : List Str} (h : (l.map (·.length)).sum + l.length * a.length ≤ 16777216) : joinD (.str a) (.lst (l.map .str)) = some (.str (Str.join a l)) := by
  have : joinOk a l = true := decide_eq_true h
  show (strsD _).bind _ = _
  rw [strsD_map]
  simp only [Option.bind_some, this, if_true]
  rw [show Txt.join a l = _ from PySem.StrLaws.glued_eq_join a l]
theorem fmtD_str {z : Str} (h : z.length ≤ 16777216) : fmtD (.str z) = some (.str z) := if_pos h
@[simp] theorem fldD_obj {C : Nat} {f : Str} {fs : List (Str × D)} : fldD C f (.obj C fs) = fs.lookup f := if_pos rfl
theorem setFD_obj {C : Nat} {f : Str} {d : D} {fs : List (Str × D)} (h : fs.length < 1000) : setFD C f d (.obj C fs) = some ((), .obj C (putFA f d fs)) := if_pos ⟨rfl, h⟩
end DL

/-! ## EVc -/
/-! EVc: what a def gives, by its body. -/
namespace DL
open PySem L2
/-- how a pure def ends -/
def Rt (Q : D → Prop) : Fl → Sl → Prop
  | .rt d, _ => Q d
  | .nx, _ => Q .non
  | _, _ => False
@[simp] theorem rt_rt {Q : D → Prop} {d : D} {s : Sl} : Rt Q (.rt d) s ↔ Q d := Iff.rfl
@[simp] theorem rt_nx {Q : D → Prop} {s : Sl} : Rt Q .nx s ↔ Q .non := Iff.rfl
/-- .. and one that changes its first parameter -/
def RtI (Q : D → D → Prop) : Fl → Sl → Prop
  | .rt d, s => ∃ y, s[0]? = some (.own y) ∧ Q d y
  | .nx, s => ∃ y, s[0]? = some (.own y) ∧ Q .non y
  | _, _ => False
@[simp] theorem rtI_rt {Q : D → D → Prop} {d : D} {s : Sl} : RtI Q (.rt d) s ↔ ∃ y, s[0]? = some (.own y) ∧ Q d y := Iff.rfl
@[simp] theorem rtI_nx {Q : D → D → Prop} {s : Sl} : RtI Q .nx s ↔ ∃ y, s[0]? = some (.own y) ∧ Q .non y := Iff.rfl
theorem fnP_of {ps n : Nat} {body : M Fl} {ds : List D} {Q : D → Prop} (hl : ds.length = ps) (h : Ev body (ds.map .sh ++ List.replicate (n - ds.length) .un) (Rt Q)) : ∃ d, fnP ps n body ds = .ok d ∧ Q d := by
  obtain ⟨fl, s', e, q⟩ := ev_iff.1 h
  unfold fnP
  rw [if_pos hl, e]
  cases fl with
  | rt d => exact ⟨d, rfl, q⟩
  | nx => exact ⟨.non, rfl, q⟩
  | bk => exact q.elim
  | ct => exact q.elim
theorem fnP_eq {ps n : Nat} {body : M Fl} {ds : List D} {d : D} (hl : ds.length = ps) (h : Ev body (ds.map .sh ++ List.replicate (n - ds.length) .un) (Rt fun x => x = d)) : fnP ps n body ds = .ok d := by
  obtain ⟨_, e, rfl⟩ := fnP_of hl h; exact e
theorem fnI_of {ps n : Nat} {body : M Fl} {x : D} {ds : List D} {Q : D → D → Prop} (hl : ds.length + 1 = ps) (h : Ev body (.own x :: ds.map .sh ++ List.replicate (n - (ds.length + 1)) .un) (RtI Q)) : ∃ d y, fnI ps n body x ds = .ok d y ∧ Q d y := by
  obtain ⟨fl, s', e, q⟩ := ev_iff.1 h
  unfold fnI
  rw [if_pos hl, e]
  cases fl with
  | rt d => obtain ⟨y, e1, q⟩ := q; exact ⟨d, y, by simp [resI, own0, e1], q⟩
  | nx => obtain ⟨y, e1, q⟩ := q; exact ⟨.non, y, by simp [resI, own0, e1], q⟩
  | bk => exact q.elim
  | ct => exact q.elim
theorem fnF_eq {ps n : Nat} {init : M Fl} {last : M D} {ds : List D} {Q : D → Prop} (hl : ds.length = ps) (h : Ev (sSeq init (sRet last)) (ds.map .sh ++ List.replicate (n - ds.length) .un) (Rt Q)) : ∃ d, fnF ps n init last ds = .ok d ∧ Q d := by
  obtain ⟨fl, s', e, q⟩ := ev_iff.1 h
  unfold fnF
  rw [if_pos hl, e]
  cases fl with
  | rt d => exact ⟨d, rfl, q⟩
  | nx => exact ⟨.non, rfl, q⟩
  | bk => exact q.elim
  | ct => exact q.elim
/-! generators -/
def RtY (Q : List D → Prop) : List D × Fl → Sl → Prop
  | (os, .nx), _ => Q os
  | (os, .rt .non), _ => Q os
  | _, _ => False
theorem fnY_of {ps n : Nat} {body : MY} {ds : List D} {Q : List D → Prop} (hl : ds.length = ps) (h : Ev body (ds.map .sh ++ List.replicate (n - ds.length) .un) (RtY Q)) : ∃ os, fnY ps n body ds = some os ∧ Q os := by
  obtain ⟨⟨os, fl⟩, s', e, q⟩ := ev_iff.1 h
  unfold fnY
  rw [if_pos hl, e]
  cases fl with
  | rt d => cases d <;> first | exact ⟨os, rfl, q⟩ | exact q.elim
  | nx => exact ⟨os, rfl, q⟩
  | bk => exact q.elim
  | ct => exact q.elim
section
variable {s : Sl} {Q : List D × Fl → Sl → Prop}
theorem ev_yP {f : M Fl} : Ev (yP f) s Q ↔ Ev f s fun fl s1 => Q ([], fl) s1 := by simp [ev_bnd, ev_opt, ev_ret, yP]
theorem ev_y0 : Ev y0 s Q ↔ Q ([], .nx) s := ev_ret
theorem ev_ySeq {f g : MY} : Ev (ySeq f g) s Q ↔ Ev f s fun r s1 => Ev (yK g r.1 r.2) s1 Q := by simp [ev_bnd, ev_opt, ev_ret, ySeq]
theorem ev_yK_nx {g : MY} {os : List D} : Ev (yK g os .nx) s Q ↔ Ev g s fun r s1 => Q (os ++ r.1, r.2) s1 := by
  show Ev (bnd g _) s Q ↔ _
  simp [ev_bnd, ev_ret]
theorem ev_yYield {e : M D} : Ev (yYield e) s Q ↔ Ev e s fun d s1 => Q ([d], .nx) s1 := by simp [ev_bnd, ev_opt, ev_ret, yYield]
theorem ev_yForK_nx {k : MY} {fg : List Nat} {os : List D} : Ev (yForK k fg os .nx) s Q ↔ Ev (bnd k fun r => ret (os ++ r.1, r.2)) (clr fg s) Q := by unfold Ev; exact Iff.rfl
/-- a loop whose turns all end as they should -/
theorem ev_yFor {β : Type} {fi : M (List D)} {tg : D → M Fl} {fg : List Nat} {body : MY} {enc : β → D} (xs : List β) (out : β → List D) (I : Sl → Prop) (hfi : Ev fi s fun ds s1 => ds = xs.map enc ∧ I s1)
    (hs : ∀ x ∈ xs, ∀ s, I s → Ev (tg (enc x)) s fun _ s1 => Ev body s1 fun r s2 => r = (out x, .nx) ∧ I (clr fg s2)) (q : ∀ s, I s → Q (xs.flatMap out, .nx) s) : Ev (yFor fi tg fg body) s Q := by
  have key : ∀ (l : List β) (s : Sl), (∀ x ∈ l, x ∈ xs) → I s → Ev (yForL tg fg body (l.map enc)) s fun r s1 => r = (l.flatMap out, .nx) ∧ I s1 := by
    intro l
    induction l with
    | nil => intro s _ h; exact ev_ret.2 ⟨rfl, h⟩
    | cons x l ih =>
      intro s hm h
      show Ev (bnd (tg (enc x)) fun _ => bnd body fun r => yForK (yForL tg fg body (l.map enc)) fg r.1 r.2) s _
      rw [ev_bnd]
      refine (hs x (hm x (by simp)) s h).mono fun _ s1 q => ?_
      rw [ev_bnd]
      refine q.mono ?_
      rintro r s2 ⟨rfl, hI⟩
      rw [ev_yForK_nx, ev_bnd]
      refine (ih _ (fun y hy => hm y (by simp [hy])) hI).mono ?_
      rintro r s3 ⟨rfl, hI⟩
      exact ev_ret.2 ⟨by simp, hI⟩
  unfold yFor
  rw [ev_bnd]
  refine hfi.mono ?_
  rintro ds s1 ⟨rfl, hI⟩
  refine (key xs s1 (fun _ h => h) hI).mono ?_
  rintro r s2 ⟨rfl, hI⟩
  exact q s2 hI
end
end DL

/-! ## EVh -/
/-! EVh: the same runs, for simp: what follows a step is held fast (a later argument hangs on it), so that simp goes step by step. -/
namespace DL
open PySem L2
structure Hd {α : Type} (Q : α → Sl → Prop) : Type where
structure Hk {α : Type} (Q : α → Prop) : Type where
structure Hp1 (Q : Prop) : Type where
def EvH {α : Type} (m : M α) (s : Sl) (Q : α → Sl → Prop) (_ : Hd Q) : Prop := Ev m s Q
/-- an operation that gives something -/
def SmH {α : Type} (o : Option α) (Q : α → Prop) (_ : Hk Q) : Prop := ∃ d, o = some d ∧ Q d
/-- a shared slot is read; an own one -/
def ShH (o : Option Slot) (Q : D → Prop) (_ : Hk Q) : Prop := ∃ d, o = some (.sh d) ∧ Q d
def OwH (o : Option Slot) (Q : D → Prop) (_ : Hk Q) : Prop := ∃ d, o = some (.own d) ∧ Q d
/-- a call -/
def ClH (r : FR) (Q : D → Prop) (_ : Hk Q) : Prop := ∃ d, r = .ok d ∧ Q d
def CiH (r : FI) (Q : D × D → Prop) (_ : Hk Q) : Prop := ∃ d x, r = .ok d x ∧ Q (d, x)
/-- a thing that must hold -/
def GdH (p : Prop) (Q : Prop) (_ : Hp1 Q) : Prop := p ∧ Q
/-- one of two ways -/
def BrH (c : Bool) (A B : Prop) (_ : Hp1 A) (_ : Hp1 B) : Prop := if c = true then A else B
theorem Ev.of {α : Type} {m : M α} {s : Sl} {Q : α → Sl → Prop} (h : EvH m s Q ⟨⟩) : Ev m s Q := h
theorem EvH.of {α : Type} {m : M α} {s : Sl} {Q : α → Sl → Prop} {q : Hd Q} (h : Ev m s Q) : EvH m s Q q := h
@[simp] theorem smH_some {α : Type} {a : α} {Q : α → Prop} {h : Hk Q} : SmH (some a) Q h ↔ Q a := ⟨fun ⟨d, e, q⟩ => by cases e; exact q, fun q => ⟨a, rfl, q⟩⟩
@[simp] theorem shH_sh {a : D} {Q : D → Prop} {h : Hk Q} : ShH (some (.sh a)) Q h ↔ Q a := ⟨fun ⟨d, e, q⟩ => by cases e; exact q, fun q => ⟨a, rfl, q⟩⟩
@[simp] theorem owH_own {a : D} {Q : D → Prop} {h : Hk Q} : OwH (some (.own a)) Q h ↔ Q a := ⟨fun ⟨d, e, q⟩ => by cases e; exact q, fun q => ⟨a, rfl, q⟩⟩
@[simp] theorem clH_ok {a : D} {Q : D → Prop} {h : Hk Q} : ClH (.ok a) Q h ↔ Q a := ⟨fun ⟨d, e, q⟩ => by cases e; exact q, fun q => ⟨a, rfl, q⟩⟩
@[simp] theorem ciH_ok {a b : D} {Q : D × D → Prop} {h : Hk Q} : CiH (.ok a b) Q h ↔ Q (a, b) := ⟨fun ⟨d, x, e, q⟩ => by cases e; exact q, fun q => ⟨a, b, rfl, q⟩⟩
@[simp] theorem gdH_true {Q : Prop} {h : Hp1 Q} : GdH True Q h ↔ Q := ⟨fun h => h.2, fun q => ⟨trivial, q⟩⟩
@[simp] theorem brH_true {A B : Prop} {h : Hp1 A} {k : Hp1 B} : BrH true A B h k ↔ A := by unfold BrH; simp
@[simp] theorem brH_false {A B : Prop} {h : Hp1 A} {k : Hp1 B} : BrH false A B h k ↔ B := by unfold BrH; simp
theorem GdH.mk {p Q : Prop} {h : Hp1 Q} (a : p) (b : Q) : GdH p Q h := ⟨a, b⟩
theorem CiH.mk {r : FI} {d x : D} {Q : D × D → Prop} {h : Hk Q} (a : r = .ok d x) (b : Q (d, x)) : CiH r Q h := ⟨d, x, a, b⟩
theorem ClH.mk {r : FR} {d : D} {Q : D → Prop} {h : Hk Q} (a : r = .ok d) (b : Q d) : ClH r Q h := ⟨d, a, b⟩
theorem SmH.mk {α : Type} {o : Option α} {d : α} {Q : α → Prop} {h : Hk Q} (a : o = some d) (b : Q d) : SmH o Q h := ⟨d, a, b⟩
theorem BrH.t {c : Bool} {A B : Prop} {h : Hp1 A} {k : Hp1 B} (e : c = true) (a : A) : BrH c A B h k := by subst e; exact brH_true.2 a
theorem BrH.f {c : Bool} {A B : Prop} {h : Hp1 A} {k : Hp1 B} (e : c = false) (a : B) : BrH c A B h k := by subst e; exact brH_false.2 a
theorem BrH.both {c : Bool} {A B : Prop} {h : Hp1 A} {k : Hp1 B} (a : c = true → A) (b : c = false → B) : BrH c A B h k := by
  cases c with
  | true => exact brH_true.2 (a rfl)
  | false => exact brH_false.2 (b rfl)
section
variable {α β : Type} {s : Sl} {f : M α} {k : α → M β} {QA : α → Sl → Prop} {QB : β → Sl → Prop} {hA : Hd QA} {hB : Hd QB}
@[simp] theorem h_bnd : EvH (bnd f k) s QB hB ↔ EvH f s (fun a s1 => EvH (k a) s1 QB ⟨⟩) ⟨⟩ := ev_bnd
@[simp] theorem h_ret {a : α} : EvH (ret a) s QA hA ↔ QA a s := ev_ret
@[simp] theorem h_opt {a : Option α} : EvH (opt a) s QA hA ↔ SmH a (fun x => QA x s) ⟨⟩ := ev_opt
@[simp] theorem h_no : EvH (no : M α) s QA hA ↔ False := ev_no
end
section
variable {s : Sl} {g : D → D → Option D} {gu : D → Option D} {fa fb : M D} {Q : D → Sl → Prop} {h : Hd Q} {i : Nat}
@[simp] theorem h_eC {d : D} : EvH (eC d) s Q h ↔ Q d s := ev_ret
@[simp] theorem h_eVar : EvH (eVar i) s Q h ↔ ShH s[i]? (fun d => Q d s) ⟨⟩ := ev_eVar
@[simp] theorem h_eOwn : EvH (eOwn i) s Q h ↔ OwH s[i]? (fun d => Q d s) ⟨⟩ := ev_eOwn
@[simp] theorem h_eBin : EvH (eBin g fa fb) s Q h ↔ EvH fa s (fun x s1 => EvH fb s1 (fun y s2 => SmH (g x y) (fun d => Q d s2) ⟨⟩) ⟨⟩) ⟨⟩ := ev_eBin
@[simp] theorem h_eBinO : EvH (eBinO g i fb) s Q h ↔ EvH (eOwn i) s (fun _ s1 => EvH fb s1 (fun y s2 => EvH (eOwn i) s2 (fun x s3 => SmH (g x y) (fun d => Q d s3) ⟨⟩) ⟨⟩) ⟨⟩) ⟨⟩ := ev_eBinO
@[simp] theorem h_eUn : EvH (eUn gu fa) s Q h ↔ EvH fa s (fun x s1 => SmH (gu x) (fun d => Q d s1) ⟨⟩) ⟨⟩ := ev_eUn
variable {gb : D → Option Bool} {QB : Bool → Sl → Prop} {hB : Hd QB} {ca cb : M Bool}
@[simp] theorem h_tstB : EvH (tstB gb fa) s QB hB ↔ EvH fa s (fun x s1 => SmH (gb x) (fun d => QB d s1) ⟨⟩) ⟨⟩ := ev_tstB
@[simp] theorem h_bAnd : EvH (bAnd ca cb) s QB hB ↔ EvH ca s (fun c s1 => BrH c (EvH cb s1 QB ⟨⟩) (QB false s1) ⟨⟩ ⟨⟩) ⟨⟩ := ev_bAnd
@[simp] theorem h_bOr : EvH (bOr ca cb) s QB hB ↔ EvH ca s (fun c s1 => BrH c (QB true s1) (EvH cb s1 QB ⟨⟩) ⟨⟩ ⟨⟩) ⟨⟩ := ev_bOr
@[simp] theorem h_bNot : EvH (bNot ca) s QB hB ↔ EvH ca s (fun c s1 => QB (!c) s1) ⟨⟩ := ev_bNot
@[simp] theorem h_eIf {α : Type} {a b : M α} {Q : α → Sl → Prop} {h : Hd Q} : EvH (eIf ca a b) s Q h ↔ EvH ca s (fun c s1 => BrH c (EvH a s1 Q ⟨⟩) (EvH b s1 Q ⟨⟩) ⟨⟩ ⟨⟩) ⟨⟩ := ev_eIf
variable {fr : M (List D)} {QL : List D → Sl → Prop} {hL : Hd QL}
@[simp] theorem h_aNil : EvH aNil s QL hL ↔ QL [] s := ev_ret
@[simp] theorem h_aCons : EvH (aCons fa fr) s QL hL ↔ EvH fa s (fun x s1 => EvH fr s1 (fun xs s2 => QL (x :: xs) s2) ⟨⟩) ⟨⟩ := ev_aCons
@[simp] theorem h_eArgs {gl : List D → Option D} : EvH (eArgs gl fr) s Q h ↔ EvH fr s (fun xs s1 => SmH (gl xs) (fun d => Q d s1) ⟨⟩) ⟨⟩ := ev_eArgs
@[simp] theorem h_aStar : EvH (aStar fa fr) s QL hL ↔ EvH fa s (fun d s1 => SmH (seqL d) (fun xs => EvH fr s1 (fun ys s2 => QL (xs ++ ys) s2) ⟨⟩) ⟨⟩) ⟨⟩ := ev_aStar
@[simp] theorem h_itOf {gi : D → Option (List D)} : EvH (itOf gi fa) s QL hL ↔ EvH fa s (fun d s1 => SmH (gi d) (fun xs => QL xs s1) ⟨⟩) ⟨⟩ := ev_itOf
@[simp] theorem h_it2 {gi : D → D → Option (List D)} : EvH (it2 gi fa fb) s QL hL ↔ EvH fa s (fun x s1 => EvH fb s1 (fun y s2 => SmH (gi x y) (fun xs => QL xs s2) ⟨⟩) ⟨⟩) ⟨⟩ := ev_it2
@[simp] theorem h_it3 {gi : D → D → D → Option (List D)} {fc : M D} : EvH (it3 gi fa fb fc) s QL hL ↔ EvH fa s (fun x s1 => EvH fb s1 (fun y s2 => EvH fc s2 (fun z s3 => SmH (gi x y z) (fun xs => QL xs s3) ⟨⟩) ⟨⟩) ⟨⟩) ⟨⟩ := ev_it3
@[simp] theorem h_oNone {QO : Option Int → Sl → Prop} {hO : Hd QO} : EvH oNone s QO hO ↔ QO none s := ev_ret
@[simp] theorem h_oSome {QO : Option Int → Sl → Prop} {hO : Hd QO} : EvH (oSome fa) s QO hO ↔ EvH fa s (fun d s1 => SmH (asI d) (fun x => QO x s1) ⟨⟩) ⟨⟩ := ev_oSome
@[simp] theorem h_eSl {gs : D → Option Int → Option Int → Option D} {fl fh : M (Option Int)} : EvH (eSl gs fa fl fh) s Q h ↔ EvH fa s (fun x s1 => EvH fl s1 (fun lo s2 => EvH fh s2 (fun hi s3 => SmH (gs x lo hi) (fun d => Q d s3) ⟨⟩) ⟨⟩) ⟨⟩) ⟨⟩ := ev_eSl
@[simp] theorem h_eStr1 : EvH (eStr1 g fa fb) s Q h ↔ EvH fa s (fun x s1 => SmH (asStr x) (fun _ => EvH fb s1 (fun y s2 => SmH (g x y) (fun d => Q d s2) ⟨⟩) ⟨⟩) ⟨⟩) ⟨⟩ := ev_eStr1
@[simp] theorem h_eLst1 : EvH (eLst1 g fa fb) s Q h ↔ EvH fa s (fun x s1 => SmH (asLst x) (fun _ => EvH fb s1 (fun y s2 => SmH (g x y) (fun d => Q d s2) ⟨⟩) ⟨⟩) ⟨⟩) ⟨⟩ := ev_eLst1
@[simp] theorem h_eAndV : EvH (eAndV fa fb) s Q h ↔ EvH fa s (fun x s1 => SmH (asBl x) (fun c => BrH c (EvH fb s1 Q ⟨⟩) (Q (.bl false) s1) ⟨⟩ ⟨⟩) ⟨⟩) ⟨⟩ := by
  refine ev_eAndV.trans ⟨fun q => q.mono fun x s1 q => ?_, fun q => q.mono fun x s1 q => ?_⟩
  · rcases q with ⟨rfl, q⟩ | ⟨rfl, q⟩
    · exact ⟨true, rfl, brH_true.2 q⟩
    · exact ⟨false, rfl, brH_false.2 q⟩
  · obtain ⟨c, e, q⟩ := q
    obtain rfl : x = .bl c := by cases x <;> first | (cases e; rfl) | cases e
    cases c with
    | true => exact .inl ⟨rfl, brH_true.1 q⟩
    | false => exact .inr ⟨rfl, brH_false.1 q⟩
@[simp] theorem h_eOrV : EvH (eOrV fa fb) s Q h ↔ EvH fa s (fun x s1 => SmH (asBl x) (fun c => BrH c (Q (.bl true) s1) (EvH fb s1 Q ⟨⟩) ⟨⟩ ⟨⟩) ⟨⟩) ⟨⟩ := by
  refine ev_eOrV.trans ⟨fun q => q.mono fun x s1 q => ?_, fun q => q.mono fun x s1 q => ?_⟩
  · rcases q with ⟨rfl, q⟩ | ⟨rfl, q⟩
    · exact ⟨false, rfl, brH_false.2 q⟩
    · exact ⟨true, rfl, brH_true.2 q⟩
  · obtain ⟨c, e, q⟩ := q
    obtain rfl : x = .bl c := by cases x <;> first | (cases e; rfl) | cases e
    cases c with
    | false => exact .inl ⟨rfl, brH_false.1 q⟩
    | true => exact .inr ⟨rfl, brH_true.1 q⟩
variable {a b : M Fl} {QF : Fl → Sl → Prop} {hF : Hd QF}
@[simp] theorem h_sSeq : EvH (sSeq a b) s QF hF ↔ EvH a s (fun fl s1 => EvH (seqK b fl) s1 QF ⟨⟩) ⟨⟩ := ev_sSeq
@[simp] theorem h_seqK_nx : EvH (seqK b .nx) s QF hF ↔ EvH b s QF ⟨⟩ := Iff.rfl
@[simp] theorem h_seqK_bk : EvH (seqK b .bk) s QF hF ↔ QF .bk s := ev_ret
@[simp] theorem h_seqK_ct : EvH (seqK b .ct) s QF hF ↔ QF .ct s := ev_ret
@[simp] theorem h_seqK_rt {d : D} : EvH (seqK b (.rt d)) s QF hF ↔ QF (.rt d) s := ev_ret
@[simp] theorem h_sNx : EvH sNx s QF hF ↔ QF .nx s := ev_ret
@[simp] theorem h_sRet : EvH (sRet fa) s QF hF ↔ EvH fa s (fun d s1 => QF (.rt d) s1) ⟨⟩ := ev_sRet
@[simp] theorem h_sRetN : EvH sRetN s QF hF ↔ QF (.rt .non) s := ev_ret
@[simp] theorem h_sDrop {α : Type} {f : M α} : EvH (sDrop f) s QF hF ↔ EvH f s (fun _ s1 => QF .nx s1) ⟨⟩ := ev_sDrop
@[simp] theorem h_sIf : EvH (sIf ca a b) s QF hF ↔ EvH ca s (fun c s1 => BrH c (EvH a s1 QF ⟨⟩) (EvH b s1 QF ⟨⟩) ⟨⟩ ⟨⟩) ⟨⟩ := ev_sIf
@[simp] theorem h_setS {sl : Slot} : EvH (setS i sl) s QF hF ↔ GdH (i < s.length) (QF .nx (s.set i sl)) ⟨⟩ := ev_setS
@[simp] theorem h_sAsg : EvH (sAsg i fa) s QF hF ↔ EvH fa s (fun d s1 => GdH (i < s1.length) (QF .nx (s1.set i (.sh d))) ⟨⟩) ⟨⟩ := ev_sAsg
@[simp] theorem h_sAsgO : EvH (sAsgO i fa) s QF hF ↔ EvH fa s (fun d s1 => GdH (i < s1.length) (QF .nx (s1.set i (.own d))) ⟨⟩) ⟨⟩ := ev_sAsgO
@[simp] theorem h_frzS : EvH (frzS i) s QF hF ↔ OwH s[i]? (fun d => QF .nx (s.set i (.sh d))) ⟨⟩ := ev_frzS
@[simp] theorem h_tgN {d : D} : EvH (tgN i d) s QF hF ↔ GdH (i < s.length) (QF .nx (s.set i (.sh d))) ⟨⟩ := ev_setS
@[simp] theorem h_setSs_nil : EvH (setSs [] []) s QF hF ↔ QF .nx s := ev_ret
@[simp] theorem h_setSs_cons {is : List Nat} {d : D} {ds : List D} : EvH (setSs (i :: is) (d :: ds)) s QF hF ↔ GdH (i < s.length) (EvH (setSs is ds) (s.set i (.sh d)) QF ⟨⟩) ⟨⟩ := ev_setSs_cons
@[simp] theorem h_unpK {is : List Nat} {ds : List D} : EvH (unpK is (.tup ds)) s QF hF ↔ EvH (setSs is ds) s QF ⟨⟩ := Iff.rfl
@[simp] theorem h_sUnp {is : List Nat} : EvH (sUnp is fa) s QF hF ↔ EvH fa s (fun d s1 => EvH (unpK is d) s1 QF ⟨⟩) ⟨⟩ := ev_sUnp
@[simp] theorem h_eMeth1 {α : Type} {p : D → Bool} {gm : D → D → Option (α × D)} {Q : α → Sl → Prop} {h : Hd Q} : EvH (eMeth1 p i gm fa) s Q h ↔ OwH s[i]? (fun x => GdH (p x = true) (EvH fa s (fun d s1 => OwH s1[i]? (fun x => SmH (gm d x) (fun r => Q r.1 (s1.set i (.own r.2))) ⟨⟩) ⟨⟩) ⟨⟩) ⟨⟩) ⟨⟩ := by
  refine ev_eMeth1.trans ⟨fun ⟨x, e, hp, q⟩ => ⟨x, e, hp, q.mono fun d s1 ⟨y, a, b, e1, e2, q⟩ => ⟨y, e1, (a, b), e2, q⟩⟩, fun ⟨x, e, hp, q⟩ => ⟨x, e, hp, Ev.mono q fun d s1 ⟨y, e1, (a, b), e2, q⟩ => ⟨y, a, b, e1, e2, q⟩⟩⟩
@[simp] theorem h_eMeth0 {α : Type} {p : D → Bool} {gm : D → Option (α × D)} {Q : α → Sl → Prop} {h : Hd Q} : EvH (eMeth0 p i gm) s Q h ↔ OwH s[i]? (fun x => GdH (p x = true) (SmH (gm x) (fun r => Q r.1 (s.set i (.own r.2))) ⟨⟩) ⟨⟩) ⟨⟩ := by
  refine ev_eMeth0.trans ⟨fun ⟨x, e, hp, y, a, b, e1, e2, q⟩ => ⟨x, e, hp, (a, b), by rw [e] at e1; cases e1; exact e2, q⟩, fun ⟨x, e, hp, (a, b), e2, q⟩ => ⟨x, e, hp, x, a, b, e, e2, q⟩⟩
@[simp] theorem h_sSetL : EvH (sSetL i fa fb) s QF hF ↔ EvH fb s (fun d s1 => OwH s1[i]? (fun x => GdH (isL x = true) (EvH fa s1 (fun k s2 => OwH s2[i]? (fun x => SmH (setLD d k x) (fun r => QF .nx (s2.set i (.own r.2))) ⟨⟩) ⟨⟩) ⟨⟩) ⟨⟩) ⟨⟩) ⟨⟩ := by
  refine ev_sSetL.trans ⟨fun q => q.mono fun d s1 ⟨x, e, hp, q⟩ => ⟨x, e, hp, q.mono fun k s2 ⟨y, a, b, e1, e2, q⟩ => ⟨y, e1, (a, b), e2, q⟩⟩, fun q => Ev.mono q fun d s1 ⟨x, e, hp, q⟩ => ⟨x, e, hp, Ev.mono q fun k s2 ⟨y, e1, (a, b), e2, q⟩ => ⟨y, a, b, e1, e2, q⟩⟩⟩
@[simp] theorem h_sPutD : EvH (sPutD i fa fb) s QF hF ↔ EvH fb s (fun d s1 => OwH s1[i]? (fun x => GdH (isDc x = true) (EvH fa s1 (fun k s2 => OwH s2[i]? (fun x => SmH (setDD d k x) (fun r => QF .nx (s2.set i (.own r.2))) ⟨⟩) ⟨⟩) ⟨⟩) ⟨⟩) ⟨⟩) ⟨⟩ := by
  refine ev_sPutD.trans ⟨fun q => q.mono fun d s1 ⟨x, e, hp, q⟩ => ⟨x, e, hp, q.mono fun k s2 ⟨y, a, b, e1, e2, q⟩ => ⟨y, e1, (a, b), e2, q⟩⟩, fun q => Ev.mono q fun d s1 ⟨x, e, hp, q⟩ => ⟨x, e, hp, Ev.mono q fun k s2 ⟨y, e1, (a, b), e2, q⟩ => ⟨y, a, b, e1, e2, q⟩⟩⟩
@[simp] theorem h_sAugL : EvH (sAugL g i fa fb) s QF hF ↔ OwH s[i]? (fun x => GdH (isL x = true) (EvH fa s (fun k s2 => OwH s2[i]? (fun xs => SmH (ixL k xs) (fun x => EvH fb s2 (fun y s4 => SmH (g x y) (fun z => OwH s4[i]? (fun x => SmH (setLD z k x) (fun r => QF .nx (s4.set i (.own r.2))) ⟨⟩) ⟨⟩) ⟨⟩) ⟨⟩) ⟨⟩) ⟨⟩) ⟨⟩) ⟨⟩) ⟨⟩ := by
  refine ev_sAugL.trans ⟨fun ⟨x, e, hp, q⟩ => ⟨x, e, hp, q.mono fun k s2 q => ?_⟩, fun ⟨x, e, hp, q⟩ => ⟨x, e, hp, Ev.mono q fun k s2 q => ?_⟩⟩
  · obtain ⟨xs, e1, x, e2, q⟩ := ev_eOwn.1 q
    exact ⟨xs, e1, x, e2, q.mono fun y s4 ⟨z, e3, w, a, b, e4, e5, q⟩ => ⟨z, e3, w, e4, (a, b), e5, q⟩⟩
  · obtain ⟨xs, e1, x, e2, q⟩ := q
    exact ev_eOwn.2 ⟨xs, e1, x, e2, Ev.mono q fun y s4 ⟨z, e3, w, e4, (a, b), e5, q⟩ => ⟨z, e3, w, a, b, e4, e5, q⟩⟩
@[simp] theorem h_sSetF {C : Nat} {n : Str} : EvH (sSetF C i n fa) s QF hF ↔ EvH fa s (fun d s1 => OwH s1[i]? (fun x => GdH (isOb C x = true) (SmH (setFD C n d x) (fun r => QF .nx (s1.set i (.own r.2))) ⟨⟩) ⟨⟩) ⟨⟩) ⟨⟩ := by
  refine ev_sSetF.trans ⟨fun q => q.mono fun d s1 ⟨x, e, hp, y, a, b, e1, e2, q⟩ => ⟨x, e, hp, (a, b), by rw [e] at e1; cases e1; exact e2, q⟩, fun q => Ev.mono q fun d s1 ⟨x, e, hp, (a, b), e2, q⟩ => ⟨x, e, hp, x, a, b, e, e2, q⟩⟩
@[simp] theorem h_sPar {j : Nat} {b1 b2 : Bool} : EvH (sPar i j b1 b2 fa fb) s QF hF ↔ EvH fa s (fun x s1 => EvH fb s1 (fun y s2 => GdH (i < s2.length) (GdH (j < s2.length) (QF .nx ((s2.set i (parSlot b1 x)).set j (parSlot b2 y))) ⟨⟩) ⟨⟩) ⟨⟩) ⟨⟩ := ev_sPar
@[simp] theorem h_eCall {p : PF} {dds : List D} : EvH (eCall p dds fr) s Q h ↔ EvH fr s (fun ds s1 => ClH (p (ds ++ dds)) (fun d => Q d s1) ⟨⟩) ⟨⟩ := ev_eCall
@[simp] theorem h_eCallI {p : IOF} : EvH (eCallI i p fr) s Q h ↔ OwH s[i]? (fun _ => EvH fr s (fun ds s1 => OwH s1[i]? (fun x => CiH (p x ds) (fun r => Q r.1 (s1.set i (.own r.2))) ⟨⟩) ⟨⟩) ⟨⟩) ⟨⟩ := by
  refine ev_eCallI.trans ⟨fun ⟨x, e, q⟩ => ⟨x, e, q.mono fun ds s1 ⟨x, d, x', e1, e2, q⟩ => ⟨x, e1, d, x', e2, q⟩⟩, fun ⟨x, e, q⟩ => ⟨x, e, Ev.mono q fun ds s1 ⟨x, e1, d, x', e2, q⟩ => ⟨x, d, x', e1, e2, q⟩⟩⟩
@[simp] theorem h_eMake {C : Nat} {p : IOF} {dds : List D} : EvH (eMake C p dds fr) s Q h ↔ EvH fr s (fun ds s1 => CiH (p (.obj C []) (ds ++ dds)) (fun r => GdH (r.1 = .non) (Q r.2 s1) ⟨⟩) ⟨⟩) ⟨⟩ := by
  refine ev_eMake.trans ⟨fun q => q.mono fun ds s1 ⟨x', e, q⟩ => ⟨.non, x', e, rfl, q⟩, fun q => Ev.mono q fun ds s1 ⟨d, x', e, e2, q⟩ => ⟨x', by rw [e]; cases (show d = D.non from e2); rfl, q⟩⟩
@[simp] theorem h_eCallY {p : PFY} {dds : List D} : EvH (eCallY p dds fr) s QL hL ↔ EvH fr s (fun ds s1 => SmH (p (ds ++ dds)) (fun os => QL os s1) ⟨⟩) ⟨⟩ := ev_eCallY
@[simp] theorem h_jFold_nil {acc : Str} {QS : Str → Sl → Prop} {hS : Hd QS} : EvH (jFold [] acc) s QS hS ↔ QS acc s := ev_ret
@[simp] theorem h_jFold_cons {f : M D} {fs : List (M D)} {acc : Str} {QS : Str → Sl → Prop} {hS : Hd QS} : EvH (jFold (f :: fs) acc) s QS hS ↔ EvH f s (fun d s1 => SmH (jAdd acc d) (fun y => EvH (jFold fs y) s1 QS ⟨⟩) ⟨⟩) ⟨⟩ := by
  refine ev_jFold_cons.trans ⟨fun q => q.mono fun d s1 ⟨y, e, e2, q⟩ => ⟨acc ++ y, by subst e; simp [jAdd, e2], q⟩, fun q => Ev.mono q fun d s1 ⟨z, e, q⟩ => ?_⟩
  cases d <;> simp [jAdd] at e
  obtain ⟨e1, rfl⟩ := e
  exact ⟨_, rfl, e1, q⟩
@[simp] theorem h_eJoined {fs : List (M D)} : EvH (eJoined fs) s Q h ↔ EvH (jFold fs Str.empty) s (fun a s1 => Q (.str a) s1) ⟨⟩ := ev_eJoined
@[simp] theorem h_sFor {fi : M (List D)} {tg : D → M Fl} {fg : List Nat} : EvH (sFor fi tg fg a) s QF hF ↔ EvH fi s (fun ds s1 => EvH (forL tg fg a ds) s1 QF ⟨⟩) ⟨⟩ := ev_sFor
end
theorem h_eCompG {s : Sl} {tg : D → M Fl} {ct : M Bool} {act : D → M D} {vs : List Nat} {Q : D → Sl → Prop} {h : Hd Q} {fi : M (List D)} {x0 : D} : EvH (eCompG x0 fi tg ct act vs) s Q h ↔ EvH fi s (fun ds s1 => GdH ((vs.all fun v => notOwn (s1.getD v .un)) = true) (EvH (compF tg ct act vs ds x0) (clr vs s1) (fun a s' => Q a (rst s1 vs s')) ⟨⟩) ⟨⟩) ⟨⟩ := ev_eCompG
theorem ev_forI {s : Sl} {tg : D → M Fl} {fg : List Nat} {body : M Fl} {Q : Fl → Sl → Prop} {f : Nat → D} (I : Nat → Sl → Prop) {n : Nat} (h0 : I 0 s) (hs : ∀ i s, i < n → I i s → Ev (sSeq (tg (f i)) body) s (Turn fg (I (i + 1)) Q)) (he : ∀ s, I n s → Q .nx s) : Ev (forL tg fg body ((List.range n).map f)) s Q := by
  refine ev_for (enc := f) (xs := List.range n) (fun pre post s => I pre.length s ∧ pre ++ post = List.range n) ⟨h0, rfl⟩ (fun pre x post s e h => ?_) fun s h => he s (by simpa using h.1)
  have hx : x = pre.length := by
    have := congrArg (fun l => l[pre.length]?) e
    simp at this
    by_cases z : pre.length < n
    · rw [List.getElem?_range z] at this; simpa using this
    · have := congrArg List.length e; simp at this; omega
  subst hx
  have hl : pre.length < n := by have := congrArg List.length e; simp at this; omega
  refine (hs _ s hl h.1).mono fun fl s1 q => ?_
  cases fl with
  | nx => exact ⟨by simpa using q, by simpa using e⟩
  | ct => exact ⟨by simpa using q, by simpa using e⟩
  | bk => exact q
  | rt d => exact q
/-- a comprehension over what range(n) gives, each turn giving one thing, perhaps with effects -/
theorem ev_compI {s : Sl} {tg : D → M Fl} {fe : M D} {vs : List Nat} {Q : D → Sl → Prop} {f : Nat → D} (I : Nat → List D → Sl → Prop) {n : Nat} (hn : n ≤ 16777216) (h0 : I 0 [] s)
    (hs : ∀ i acc s, i < n → I i acc s → Ev (tg (f i)) s fun _ s1 => Ev fe s1 fun d s2 => I (i + 1) (acc ++ [d]) (clr vs s2)) (he : ∀ acc s, I n acc s → Q (.lst acc) s) : Ev (compF tg (ret true) (act1 fe) vs ((List.range n).map f) (.lst [])) s Q := by
  refine ev_compF (enc := f) (xs := List.range n) (fun pre post x s => ∃ acc, x = .lst acc ∧ acc.length = pre.length ∧ I pre.length acc s ∧ pre ++ post = List.range n) ⟨[], rfl, rfl, h0, rfl⟩ ?_ ?_
  · rintro pre b post x s e ⟨acc, rfl, hl, h, _⟩
    have hx : b = pre.length := by
      have := congrArg (fun l => l[pre.length]?) e
      simp at this
      by_cases z : pre.length < n
      · rw [List.getElem?_range z] at this; simpa using this
      · have := congrArg List.length e; simp at this; omega
    subst hx
    have hl2 : pre.length < n := by have := congrArg List.length e; simp at this; omega
    refine (hs _ acc s hl2 h).mono fun _ s1 q => ?_
    rw [ev_ret]
    simp only [if_true]
    unfold act1
    rw [ev_bnd]
    refine q.mono fun d s2 q => ?_
    rw [ev_opt]
    refine ⟨.lst (acc ++ [d]), ?_, acc ++ [d], rfl, by simp [hl], by simpa using q, by simpa using e⟩
    simp only [pushD]
    rw [if_pos (by rw [DL.sizeLine_eq]; omega)]
  · rintro x s ⟨acc, rfl, hl, h, _⟩
    exact he acc s (by simpa using h)
/-- ev_comp, ev_map for simp -/
theorem h_comp {s : Sl} {tg : D → M Fl} {ct : M Bool} {vs : List Nat} {Q : D → Sl → Prop} {h : Hd Q} {fi : M (List D)} {fe : M D} {β : Type} {enc : β → D} (xs : List β) (p : β → Bool) (y : β → D) (hfi : EvH fi s (fun ds s1 => ds = xs.map enc ∧ s1 = s) ⟨⟩) (hno : (vs.all fun v => notOwn (s.getD v .un)) = true) (hl : xs.length ≤ 16777216)
    (hs : ∀ x ∈ xs, EvH (tg (enc x)) (clr vs s) (fun _ s1 => GdH (clr vs s1 = clr vs s) (EvH ct s1 (fun k s2 => s2 = s1 ∧ k = p x ∧ (p x = true → EvH fe s1 (fun d s3 => d = y x ∧ s3 = s1) ⟨⟩)) ⟨⟩) ⟨⟩) ⟨⟩) (q : Q (.lst ((xs.filter p).map y)) s) : EvH (eComp fi tg ct fe vs) s Q h :=
  ev_comp xs p y hfi hno hl hs q
theorem h_map {s : Sl} {tg : D → M Fl} {vs : List Nat} {Q : D → Sl → Prop} {h : Hd Q} {fi : M (List D)} {fe : M D} {β : Type} {enc : β → D} (xs : List β) (y : β → D) (hfi : EvH fi s (fun ds s1 => ds = xs.map enc ∧ s1 = s) ⟨⟩) (hno : (vs.all fun v => notOwn (s.getD v .un)) = true) (hl : xs.length ≤ 16777216)
    (hs : ∀ x ∈ xs, EvH (tg (enc x)) (clr vs s) (fun _ s1 => GdH (clr vs s1 = clr vs s) (EvH fe s1 (fun d s3 => d = y x ∧ s3 = s1) ⟨⟩) ⟨⟩) ⟨⟩) (q : Q (.lst (xs.map y)) s) : EvH (eComp fi tg (ret true) fe vs) s Q h :=
  ev_map xs y hfi hno hl hs q
@[simp] theorem mulOk_lit {a b : Int} (h1 : -(2 ^ 64) < b) (h2 : b < 2 ^ 64) : MulOk a b ↔ True := iff_true_intro (mulOk_r h1 h2)
@[simp] theorem mulD_h {a b : Int} (h : MulOk a b) : mulD (.int a) (.int b) = some (.int (a * b)) := mulD_int h
@[simp] theorem modD_h {a b : Int} (h : 0 < b) : modD (.int a) (.int b) = some (.int (a % b)) := modD_int h
theorem log2_small {n : Nat} (h : n < 2 ^ 64) : n.log2 < 9000 := by
  by_cases hz : n = 0
  · subst hz; decide
  · have := (Nat.log2_lt hz).2 h; omega
@[simp] theorem divD_h {a b : Int} (h : 0 < b) (h2 : b < 2 ^ 64) : divD (.int a) (.int b) = some (.int (a / b)) := divD_int h (log2_small (by omega))
@[simp] theorem powD_h {a b : Int} (h : 0 ≤ b) (h2 : b ≤ 1000000) (h3 : a.natAbs < 2 ^ 64) : powD (.int a) (.int b) = some (.int (a ^ b.toNat)) := powD_int ⟨h, h2, h3⟩
@[simp] theorem shlD_h {a b : Int} (h : 0 ≤ b) (h2 : b ≤ 1000000) (h3 : a.natAbs < 2 ^ 64) : shlD (.int a) (.int b) = some (.int (a * 2 ^ b.toNat)) := shlD_int ⟨h, h2, h3⟩
@[simp] theorem shrD_h {a b : Int} (h : 0 ≤ b) : shrD (.int a) (.int b) = some (.int (a / 2 ^ b.toNat)) := shrD_int h
end DL

/-! ## K47d -/
namespace K47
open PySem L2 DL
def l_NO_NAMES : List Str := ["and", "chance", "done", "else", "game", "hear", "if", "mod", "model", "not", "or", "pack", "program", "room", "rooms", "row", "score", "share", "spots", "start", "straight", "then", "turn", "web", "wiring", "word"]
def g_NO_NAMES : D := .tup (l_NO_NAMES.map .str)
def b_is_run_character : M Fl :=
  (sRet (eOrV (eBin inD (eVar 0) (eC (.str "ABCDEFGHIJKLMNOPQRSTUVWXYZabcdefghijklmnopqrstuvwxyz"))) (eOrV (eBin inD (eVar 0) (eC (.str "0123456789"))) (eBin eqD (eVar 0) (eC (.str "_"))))))
def d_is_run_character : PF := fnP 1 1 b_is_run_character
def b_is_name_nameforms : M Fl :=
  (sSeq (sIf (bNot (tstB truD (eUn isiStr (eVar 0)))) (sRet (eC (.bl false))) sNx)
  (sSeq (sIf (bOr (tstB asBl (eBin ltD (eUn lenD (eVar 0)) (eC (.int 1)))) (tstB asBl (eBin gtD (eUn lenD (eVar 0)) (eC (.int 16))))) (sRet (eC (.bl false))) sNx)
  (sSeq (sIf (bOr (tstB asBl (eBin notInD (eBin ixD (eVar 0) (eC (.int 0))) (eC (.str "ABCDEFGHIJKLMNOPQRSTUVWXYZabcdefghijklmnopqrstuvwxyz")))) (tstB asBl (eBin inD (eVar 0) (eC g_NO_NAMES)))) (sRet (eC (.bl false))) sNx)
  (sSeq (sFor (itOf seqItems (eVar 0)) (tgN 1) [1] (sIf (bNot (tstB truD (eCall d_is_run_character [] (aCons (eVar 1) aNil)))) (sRet (eC (.bl false))) sNx))
  (sRet (eC (.bl true)))))))
def d_is_name_nameforms : PF := fnP 1 2 b_is_name_nameforms
def b_first_doubtful : M Fl :=
  (sSeq (sAsgO 1 (eC (.dct [])))
  (sSeq (sFor (itOf enuU (eVar 0)) (unpK [2, 3]) [2, 3] (sSeq (sIf (bOr (bNot (tstB truD (eCall d_is_name_nameforms [] (aCons (eVar 3) aNil)))) (tstB asBl (eBin dinD (eVar 3) (eOwn 1)))) (sRet (eVar 2)) sNx)
  (sPutD 1 (eVar 3) (eC (.bl true)))))
  (sRet (eUn negD (eC (.int 1))))))
def d_first_doubtful : PF := fnP 1 4 b_first_doubtful
def b_members : M Fl :=
  (sRet (eComp (itOf rng1D (eUn bitsD (eVar 0))) (tgN 1) (tstB truD (eBin bandD (eBin shrD (eVar 0) (eVar 1)) (eC (.int 1)))) (eVar 1) [1]))
def d_members : PF := fnP 1 2 b_members
def b_teller_bits : M Fl :=
  (sSeq (sAsg 2 (eCompD (itOf enuU (eVar 0)) (unpK [3, 4]) (ret true) (eVar 4) (eVar 3) [3, 4]))
  (sSeq (sAsgO 5 (eBin repL (eArgs lstD (aCons (eC (.int 0)) aNil)) (eUn lenD (eVar 0))))
  (sSeq (sFor (itOf seqItems (eVar 1)) (unpK [6, 7]) [6, 7] (sAugL (i2 fun a b => .int (Builtin.bitOr a b)) 5 (eBin dgetD (eVar 2) (eVar 7)) (eBin shlD (eC (.int 1)) (eBin dgetD (eVar 2) (eVar 6)))))
  (sRet (eUn tupleD (eOwn 5))))))
def d_teller_bits : PF := fnP 2 8 b_teller_bits
def b_ties_in : M Fl :=
  (sSeq (sAsg 2 (eUn mkRngD (eUn lenD (eVar 0))))
  (sRet (eUn tupleD (eComp2 (itOf rngItems (eVar 2)) (tgN 3) (ret true) (itOf rngItems (eVar 2)) (tgN 4) (tstB truD (eBin bandD (eBin shrD (eBin ixD (eVar 1) (eVar 4)) (eVar 3)) (eC (.int 1)))) (eArgs tupD (aCons (eBin ixD (eVar 0) (eVar 3)) (aCons (eBin ixD (eVar 0) (eVar 4)) aNil))) [3, 4] [4]))))
def d_ties_in : PF := fnP 2 5 b_ties_in
def b_name_of : M Fl :=
  (sSeq (sIf (bNot (tstB truD (eCall d_is_name_nameforms [] (aCons (eVar 0) aNil)))) no sNx)
  (sRet (eVar 0)))
def d_name_of : PF := fnP 1 1 b_name_of
def b_names_of : M Fl :=
  (sSeq (sAsg 1 (eCall d_first_doubtful [] (aCons (eVar 0) aNil)))
  (sSeq (sIf (tstB asBl (eBin geD (eVar 1) (eC (.int 0)))) no sNx)
  (sRet (eUn tupleD (eVar 0)))))
def d_names_of : PF := fnP 1 2 b_names_of
def b_check_length : M Fl :=
  (sIf (tstB asBl (eBin gtD (eUn lenD (eVar 0)) (eC (.int 200000)))) no sNx)
def d_check_length : PF := fnP 1 1 b_check_length
def b_is_name : M Fl :=
  (sSeq (sDrop (eCall d_name_of [] (aCons (eVar 0) aNil)))
  (sRet (eC (.bl true))))
def d_is_name : PF := fnP 1 1 b_is_name
def b_is_name_wordlooks : M Fl :=
  (sSeq (sDrop (eCall d_name_of [] (aCons (eVar 0) aNil)))
  (sRet (eC (.bl true))))
def d_is_name_wordlooks : PF := fnP 1 1 b_is_name_wordlooks
def b_is_lot : M Fl :=
  (sSeq (sAsg 2 (eC (.int 0)))
  (sSeq (sFor (itOf seqItems (eCall d_members [] (aCons (eVar 1) aNil))) (tgN 3) [3] (sSeq (sIf (bOr (tstB asBl (eBin eqD (eBin ixD (eVar 0) (eVar 3)) (eC (.int 0)))) (tstB truD (eBin bandD (eBin ixD (eVar 0) (eVar 3)) (eVar 2)))) (sRet (eC (.bl false))) sNx)
  (sAug (i2 fun a b => .int (Builtin.bitOr a b)) 2 (eBin ixD (eVar 0) (eVar 3)))))
  (sRet (eAndV (eBin neD (eVar 1) (eC (.int 0))) (eBin eqD (eBin bandD (eVar 1) (eUn invD (eVar 2))) (eC (.int 0)))))))
def d_is_lot : PF := fnP 2 4 b_is_lot
def b_lots_in : M Fl :=
  (sRet (eComp (it2 rng2D (eC (.int 1)) (eBin shlD (eC (.int 1)) (eUn lenD (eVar 0)))) (tgN 1) (tstB truD (eCall d_is_lot [] (aCons (eVar 0) (aCons (eVar 1) aNil)))) (eVar 1) [1]))
def d_lots_in : PF := fnP 1 2 b_lots_in
def b_ties_of_words : M Fl :=
  (sSeq (sIf (bNot (tstB truD (eVar 0))) (sRet (eC (.lst []))) sNx)
  (sSeq (sIf (tstB asBl (eBin neD (eBin modD (eUn lenD (eVar 0)) (eC (.int 4))) (eC (.int 3)))) (sRet (eC .non)) sNx)
  (sSeq (sAsgO 1 (eC (.lst [])))
  (sSeq (sFor (it3 rng3D (eC (.int 0)) (eUn lenD (eVar 0)) (eC (.int 4))) (tgN 2) [2] (sSeq (sIf (bOr (tstB asBl (eBin neD (eBin ixD (eVar 0) (eBin addD (eVar 2) (eC (.int 1)))) (eC (.str ">")))) (bOr (bNot (tstB truD (eCall d_is_name_wordlooks [] (aCons (eBin ixD (eVar 0) (eVar 2)) aNil)))) (bNot (tstB truD (eCall d_is_name_wordlooks [] (aCons (eBin ixD (eVar 0) (eBin addD (eVar 2) (eC (.int 2)))) aNil)))))) (sRet (eC .non)) sNx)
  (sSeq (sIf (bAnd (tstB asBl (eBin ltD (eBin addD (eVar 2) (eC (.int 3))) (eUn lenD (eVar 0)))) (tstB asBl (eBin neD (eBin ixD (eVar 0) (eBin addD (eVar 2) (eC (.int 3)))) (eC (.str ";"))))) (sRet (eC .non)) sNx)
  (sDrop (eMeth1 isL 1 appD (eArgs tupD (aCons (eBin ixD (eVar 0) (eVar 2)) (aCons (eBin ixD (eVar 0) (eBin addD (eVar 2) (eC (.int 2)))) aNil))))))))
  (sSeq (frzS 1) (sRet (eVar 1)))))))
def d_ties_of_words : PF := fnP 1 3 b_ties_of_words
def b_ties_text : M Fl :=
  (sRet (eStr1 joinD (eC (.str " ; ")) (eComp (itOf seqItems (eVar 0)) (unpK [1, 2]) (ret true) (eJoined [(eUn fmtD (eVar 1)), (eC (.str " > ")), (eUn fmtD (eVar 2))]) [1, 2])))
def d_ties_text : PF := fnP 1 3 b_ties_text
def b_web_text : M Fl :=
  (sSeq (sAsg 2 (eStr1 joinD (eC (.str " ")) (eArgs lstD (aStar (eVar 0) (aCons (eC (.str ":")) aNil)))))
  (sRet (eIf (tstB truD (eVar 1)) (eJoined [(eUn fmtD (eVar 2)), (eC (.str " ")), (eUn fmtD (eCall d_ties_text [] (aCons (eVar 1) aNil)))]) (eVar 2))))
def d_web_text : PF := fnP 2 3 b_web_text
def b_checked_rooms : M Fl :=
  (sSeq (sAsg 1 (eCall d_names_of [] (aCons (eVar 0) aNil)))
  (sSeq (sIf (tstB asBl (eBin gtD (eUn lenD (eVar 1)) (eC (.int 12)))) no sNx)
  (sRet (eVar 1))))
def d_checked_rooms : PF := fnP 1 3 b_checked_rooms
def b_ordered_ties : M Fl :=
  (sSeq (sFor (itOf seqItems (eVar 1)) (unpK [2, 3]) [2, 3] (sIf (bOr (tstB asBl (eBin notInD (eVar 2) (eVar 0))) (tstB asBl (eBin notInD (eVar 3) (eVar 0)))) no sNx))
  (sRet (eCall d_ties_in [] (aCons (eVar 0) (aCons (eCall d_teller_bits [] (aCons (eVar 0) (aCons (eVar 1) aNil))) aNil)))))
def d_ordered_ties : PF := fnP 2 4 b_ordered_ties
def b_lots_of : MY :=
  (ySeq (yP (sAsg 1 (eCall d_teller_bits [] (aCons (eUn (fldD 3 "rooms") (eVar 0)) (aCons (eUn (fldD 3 "ties") (eVar 0)) aNil)))))
  (ySeq (yFor (itOf seqItems (eCall d_lots_in [] (aCons (eVar 1) aNil))) (tgN 2) [2] (ySeq (yYield (eUn tupleD (eComp (itOf seqItems (eCall d_members [] (aCons (eVar 2) aNil))) (tgN 3) (ret true) (eBin ixD (eUn (fldD 3 "rooms") (eVar 0)) (eVar 3)) [3])))
  y0))
  y0))
def d_lots_of : PFY := fnY 1 4 b_lots_of
def b__law_bag : M Fl :=
  (sSeq (sAsg 1 (eC (.int 1299709)))
  (sFor (itOf seqItems (eSl slD (eVar 0) oNone (oSome (eC (.int 63))))) (tgN 2) [2] (sAsg 1 (eBin modD (eUn intD (eBin addD (eBin addD (eBin mulD (eVar 1) (eC (.int 72931))) (eBin modD (eUn intD (eVar 2)) (eC (.int 2147483629)))) (eC (.int 811)))) (eC (.int 2147483647))))))
def l__law_bag : M D := (eArgs lstD (aCons (eUn listD (eSl slD (eVar 0) oNone (oSome (eC (.int 63))))) (aCons (eC (.int 0)) (aCons (eC (.int 0)) (aCons (eC (.int 0)) (aCons (eVar 1) aNil))))))
def d__law_bag : PF := fnF 1 3 b__law_bag l__law_bag
def b__law_draw : M Fl :=
  (sSeq (sSetL 0 (eC (.int 3)) (eBin addD (eBinO ixD 0 (eC (.int 3))) (eC (.int 1))))
  (sSeq (sIf (bAnd (tstB asBl (eBin eqD (eBinO ixD 0 (eC (.int 2))) (eC (.int 0)))) (tstB asBl (eBin ltD (eBinO ixD 0 (eC (.int 1))) (eUn lenD (eBinO ixD 0 (eC (.int 0))))))) (sSeq (sAsg 2 (eUn intD (eBin ixD (eBinO ixD 0 (eC (.int 0))) (eBinO ixD 0 (eC (.int 1))))))
  (sSeq (sSetL 0 (eC (.int 1)) (eBin addD (eBinO ixD 0 (eC (.int 1))) (eC (.int 1))))
  (sIf (tstB asBl (eBin geD (eVar 2) (eBin powD (eC (.int 10)) (eC (.int 18))))) (sSetL 0 (eC (.int 2)) (eVar 2)) (sSetL 0 (eC (.int 4)) (eBin modD (eUn intD (eBin addD (eBin addD (eBin mulD (eBinO ixD 0 (eC (.int 4))) (eC (.int 38653))) (eBin mulD (eBin modD (eUn intD (eVar 2)) (eC (.int 2147483587))) (eC (.int 7417)))) (eC (.int 509)))) (eC (.int 2147483647))))))) sNx)
  (sSeq (sIf (tstB asBl (eBin gtD (eBinO ixD 0 (eC (.int 2))) (eC (.int 0)))) (sSeq (sAsg 3 (eBin modD (eUn intD (eBinO ixD 0 (eC (.int 2)))) (eVar 1)))
  (sSeq (sSetL 0 (eC (.int 2)) (eBin divD (eBinO ixD 0 (eC (.int 2))) (eVar 1)))
  (sRet (eVar 3)))) sNx)
  (sSeq (sAsg 4 (eUn intD (eBinO ixD 0 (eC (.int 4)))))
  (sSeq (sSetL 0 (eC (.int 4)) (eBin modD (eUn intD (eBin addD (eBin addD (eBin addD (eBin powD (eVar 4) (eC (.int 3))) (eBin mulD (eVar 4) (eC (.int 52361)))) (eBin mulD (eBinO ixD 0 (eC (.int 3))) (eC (.int 1104427)))) (eC (.int 30011)))) (eC (.int 2147483647))))
  (sRet (eBin modD (eUn intD (eBin addD (eBin divD (eBinO ixD 0 (eC (.int 4))) (eC (.int 89))) (eBin mulD (eBin modD (eUn intD (eBinO ixD 0 (eC (.int 4)))) (eC (.int 7879))) (eC (.int 67))))) (eVar 1))))))))
def d__law_draw : IOF := fnI 2 5 b__law_draw
def b__law_of : M Fl :=
  (sRet (eBin ixD (eVar 1) (eCallI 0 d__law_draw (aCons (eUn lenD (eVar 1)) aNil))))
def d__law_of : IOF := fnI 2 2 b__law_of
def b__law_mixed : M Fl :=
  (sSeq (sPar 2 3 true true (eUn listD (eVar 1)) (eC (.lst [])))
  (sSeq (sFor (itOf rng1D (eUn lenD (eOwn 2))) (tgN 4) [4] (sDrop (eMeth1 isL 3 appD (eMeth1 isL 2 popAtD (eCallI 0 d__law_draw (aCons (eUn lenD (eOwn 2)) aNil))))))
  (sSeq (frzS 3) (sRet (eVar 3)))))
def d__law_mixed : IOF := fnI 2 5 b__law_mixed
def b__law_closed : M Fl :=
  (sRet (eStr1 splitD (eC (.str "and chance done else game hear if mod model not or pack program room rooms row score share spots start straight then turn web wiring word")) (eC (.str " "))))
def d__law_closed : PF := fnP 0 0 b__law_closed
def b__law_fresh : M Fl :=
  (sSeq (sPar 3 4 true false (eC (.lst [])) (eC (.str "qxbzMpfkaHgcwmtArnoCdeiBjlsuvyhDEFGIJKL")))
  (sSeq (sFor (itOf rng1D (eVar 1)) (tgN 5) [5, 6, 8] (sSeq (sAsg 6 (eStr1 joinD (eC (.str "")) (eComp (itOf rng1D (eCallI 0 d__law_of (aCons (eArgs lstD (aCons (eC (.int 0)) (aCons (eC (.int 0)) (aCons (eC (.int 1)) (aCons (eC (.int 0)) (aCons (eC (.int 2)) (aCons (eC (.int 0)) (aCons (eC (.int 5)) (aCons (eC (.int 15)) aNil))))))))) aNil))) (tgN 7) (ret true) (eCallI 0 d__law_of (aCons (eBin addD (eVar 4) (eC (.str "0123456789_"))) aNil)) [7])))
  (sSeq (sAsg 8 (eBin addD (eCallI 0 d__law_of (aCons (eVar 4) aNil)) (eVar 6)))
  (sSeq (sIf (bAnd (tstB truD (eOwn 3)) (tstB asBl (eBin eqD (eCallI 0 d__law_draw (aCons (eC (.int 6)) aNil)) (eC (.int 0))))) (sAsg 8 (eBin addD (eSl slD (eBin addD (eBinO ixD 3 (eUn negD (eC (.int 1)))) (eC (.str "aaaaaaaaaaaaaaa"))) oNone (oSome (eC (.int 15)))) (eCallI 0 d__law_of (aCons (eC (.str "ab9_M")) aNil)))) sNx)
  (sSeq (sIf (bAnd (tstB truD (eVar 2)) (tstB asBl (eBin eqD (eCallI 0 d__law_draw (aCons (eC (.int 4)) aNil)) (eC (.int 0))))) (sAsg 8 (eCallI 0 d__law_of (aCons (eVar 2) aNil))) sNx)
  (sSeq (sAsg 8 (eIf (tstB asBl (eBin inD (eVar 8) (eCall d__law_closed [] aNil))) (eBin addD (eVar 8) (eC (.str "_"))) (eVar 8)))
  (sDrop (eMeth1 isL 3 appD (eBin ixD (eComp (itOf seqItems (eBin addD (eArgs lstD (aCons (eVar 8) aNil)) (eComp (it2 rng2D (eC (.int 2)) (eC (.int 99))) (tgN 9) (ret true) (eBin addD (eSl slD (eVar 8) oNone (oSome (eC (.int 13)))) (eUn strD (eVar 9))) [9]))) (tgN 10) (tstB asBl (eBin notInD (eVar 10) (eOwn 3))) (eVar 10) [10]) (eC (.int 0)))))))))))
  (sSeq (frzS 3) (sRet (eVar 3)))))
def d__law_fresh : IOF := fnI 3 11 b__law_fresh
def b__law_tellers : M Fl :=
  (sRet (eComp (itOf seqItems (eVar 0)) (unpK [2, 3]) (tstB asBl (eBin eqD (eVar 3) (eVar 1))) (eVar 2) [2, 3]))
def d__law_tellers : PF := fnP 2 4 b__law_tellers
def b__law_hearers : M Fl :=
  (sRet (eUn sortD (eComp (itOf seqItems (eVar 0)) (unpK [2, 3]) (tstB asBl (eBin eqD (eVar 2) (eVar 1))) (eVar 3) [2, 3])))
def d__law_hearers : PF := fnP 2 4 b__law_hearers
def b__law_sibs : M Fl :=
  (sRet (eUn sortD (eComp (itOf seqItems (eVar 0)) (unpK [3, 4]) (bAnd (tstB asBl (eBin eqD (eVar 4) (eVar 1))) (tstB asBl (eBin inD (eArgs tupD (aCons (eVar 3) (aCons (eVar 2) aNil))) (eVar 0)))) (eVar 3) [3, 4])))
def d__law_sibs : PF := fnP 3 5 b__law_sibs
def b__law_is_bare : M Fl :=
  (sSeq (sFor (itOf rng1D (eUn lenD (eVar 1))) (tgN 2) [2, 3] (sFor (itOf rng1D (eVar 2)) (tgN 3) [3] (sIf (tstB truD (eCall d__law_sibs [] (aCons (eVar 0) (aCons (eBin ixD (eVar 1) (eVar 3)) (aCons (eBin ixD (eVar 1) (eVar 2)) aNil))))) (sRet (eC (.bl false))) sNx)))
  (sRet (eC (.bl true))))
def d__law_is_bare : PF := fnP 2 4 b__law_is_bare
def b__law_rings : M Fl :=
  (sSeq (sAsg 2 (eComp (itOf rng1D (eVar 0)) (tgN 3) (ret true) (eCall d__law_hearers [] (aCons (eVar 1) (aCons (eVar 3) aNil))) [3]))
  (sSeq (sAsgO 4 (eC (.lst [])))
  (sSeq (sFor (itOf rng1D (eVar 0)) (tgN 5) [5, 6] (sSeq (sAsgO 6 (eArgs lstD (aCons (eArgs tupD (aCons (eVar 5) aNil)) aNil)))
  (whN (tstB truD (eOwn 6)) [7] (sSeq (sAsg 7 (eMeth0 isL 6 popD))
  (sSeq (sIf (tstB asBl (eBin inD (eVar 5) (eBin ixD (eVar 2) (eBin ixD (eVar 7) (eUn negD (eC (.int 1))))))) (sDrop (eMeth1 isL 4 appD (eVar 7))) sNx)
  (sAsgO 6 (eBinO catL 6 (eComp (itOf seqItems (eBin ixD (eVar 2) (eBin ixD (eVar 7) (eUn negD (eC (.int 1)))))) (tgN 8) (bAnd (tstB asBl (eBin gtD (eVar 8) (eVar 5))) (tstB asBl (eBin notInD (eVar 8) (eVar 7)))) (eBin addD (eVar 7) (eArgs tupD (aCons (eVar 8) aNil))) [8]))))) fuel)))
  (sRet (eUn sortD (eOwn 4))))))
def d__law_rings : PF := fnP 2 9 b__law_rings
def b__law_bares : M Fl :=
  (sRet (eComp (itOf seqItems (eCall d__law_rings [] (aCons (eVar 0) (aCons (eVar 1) aNil)))) (tgN 2) (tstB truD (eCall d__law_is_bare [] (aCons (eVar 1) (aCons (eVar 2) aNil)))) (eVar 2) [2]))
def d__law_bares : PF := fnP 2 3 b__law_bares
def b__law_named : M Fl :=
  (sRet (eUn tupleD (eComp (itOf seqItems (eVar 1)) (tgN 2) (ret true) (eBin ixD (eVar 0) (eVar 2)) [2])))
def d__law_named : PF := fnP 2 3 b__law_named
def b__law_pairs : M Fl :=
  (sRet (eComp (itOf seqItems (eVar 1)) (unpK [2, 3]) (ret true) (eArgs tupD (aCons (eBin ixD (eVar 0) (eVar 2)) (aCons (eBin ixD (eVar 0) (eVar 3)) aNil))) [2, 3]))
def d__law_pairs : PF := fnP 2 4 b__law_pairs
def b__law_xtext : M Fl :=
  (sRet (eStr1 joinD (eC (.str " ")) (eBin addD (eBin addD (eVar 0) (eArgs lstD (aCons (eC (.str ":")) aNil))) (eIf (tstB truD (eVar 1)) (eArgs lstD (aCons (eStr1 joinD (eC (.str " ; ")) (eComp (itOf seqItems (eVar 1)) (unpK [2, 3]) (ret true) (eBin addD (eBin addD (eVar 2) (eC (.str " > "))) (eVar 3)) [2, 3])) aNil)) (eC (.lst []))))))
def d__law_xtext : PF := fnP 2 4 b__law_xtext
def b__law_ties : M Fl :=
  (sSeq (sPar 2 3 false false (eCallI 0 d__law_draw (aCons (eC (.int 11)) aNil)) (eCallI 0 d__law_mixed (aCons (eUn lrg1D (eVar 1)) aNil)))
  (sSeq (sAsg 4 (eIf (tstB asBl (eBin ltD (eVar 1) (eC (.int 5)))) (eC (.int 3)) (eC (.int 4))))
  (sSeq (sIf (tstB asBl (eBin ltD (eVar 2) (eC (.int 6)))) (sAsg 5 (eC (.lst []))) (sIf (tstB asBl (eBin eqD (eVar 2) (eC (.int 6)))) (sAsg 5 (eArgs lstD (aCons (eArgs tupD (aCons (eC (.int 0)) (aCons (eC (.int 1)) aNil))) (aCons (eArgs tupD (aCons (eC (.int 0)) (aCons (eC (.int 2)) aNil))) (aCons (eArgs tupD (aCons (eC (.int 1)) (aCons (eC (.int 0)) aNil))) (aCons (eArgs tupD (aCons (eC (.int 1)) (aCons (eC (.int 2)) aNil))) (aCons (eArgs tupD (aCons (eC (.int 2)) (aCons (eC (.int 0)) aNil))) (aCons (eArgs tupD (aCons (eC (.int 2)) (aCons (eC (.int 1)) aNil))) aNil)))))))) (sIf (tstB asBl (eBin eqD (eVar 2) (eC (.int 7)))) (sAsg 5 (eArgs lstD (aCons (eArgs tupD (aCons (eC (.int 0)) (aCons (eC (.int 1)) aNil))) (aCons (eArgs tupD (aCons (eC (.int 1)) (aCons (eC (.int 0)) aNil))) (aCons (eArgs tupD (aCons (eC (.int 2)) (aCons (eC (.int 0)) aNil))) (aCons (eArgs tupD (aCons (eC (.int 2)) (aCons (eC (.int 1)) aNil))) aNil)))))) (sIf (tstB asBl (eBin eqD (eVar 2) (eC (.int 8)))) (sAsg 5 (eBin addD (eComp (itOf rng1D (eVar 4)) (tgN 6) (ret true) (eArgs tupD (aCons (eVar 6) (aCons (eBin modD (eUn intD (eBin addD (eVar 6) (eC (.int 1)))) (eVar 4)) aNil))) [6]) (eArgs lstD (aCons (eArgs tupD (aCons (eVar 4) (aCons (eC (.int 0)) aNil))) (aCons (eArgs tupD (aCons (eVar 4) (aCons (eC (.int 1)) aNil))) aNil))))) (sIf (tstB asBl (eBin eqD (eVar 2) (eC (.int 9)))) (sAsg 5 (eComp (itOf rng1D (eVar 1)) (tgN 6) (ret true) (eArgs tupD (aCons (eVar 6) (aCons (eBin addD (eVar 6) (eC (.int 1))) aNil))) [6])) (sAsg 5 (eComp (itOf rng1D (eVar 1)) (tgN 6) (ret true) (eArgs tupD (aCons (eVar 6) (aCons (eBin modD (eUn intD (eBin addD (eVar 6) (eC (.int 1)))) (eBin max2D (eC (.int 1)) (eVar 1))) aNil))) [6])))))))
  (sSeq (sPar 7 8 false true (eIf (tstB asBl (eBin ltD (eVar 2) (eC (.int 6)))) (eC (.int 4)) (eCallI 0 d__law_of (aCons (eArgs lstD (aCons (eC (.int 0)) (aCons (eC (.int 1)) (aCons (eC (.int 3)) (aCons (eC (.int 7)) aNil))))) aNil))) (eC (.lst [])))
  (sSeq (sFor (itOf rng1D (eVar 1)) (tgN 9) [9, 10] (sFor (itOf rng1D (eVar 1)) (tgN 10) [10, 11] (sSeq (sAsg 11 (eCallI 0 d__law_draw (aCons (eC (.int 12)) aNil)))
  (sIf (bOr (bAnd (tstB asBl (eBin neD (eVar 9) (eVar 10))) (tstB asBl (eBin inD (eArgs tupD (aCons (eVar 9) (aCons (eVar 10) aNil))) (eVar 5)))) (bAnd (tstB asBl (eBin ltD (eVar 11) (eVar 7))) (bOr (tstB asBl (eBin neD (eVar 9) (eVar 10))) (tstB asBl (eBin inD (eVar 2) (eArgs lstD (aCons (eC (.int 4)) (aCons (eC (.int 5)) (aCons (eC (.int 10)) aNil))))))))) (sDrop (eMeth1 isL 8 appD (eArgs tupD (aCons (eBin ixD (eVar 3) (eVar 9)) (aCons (eBin ixD (eVar 3) (eVar 10)) aNil))))) sNx))))
  (sRet (eUn sortD (eOwn 8))))))))
def d__law_ties : IOF := fnI 2 12 b__law_ties
def b__law_size : M Fl :=
  (sRet (eBin min2D (eVar 1) (eCallI 0 d__law_of (aCons (eArgs lstD (aCons (eC (.int 3)) (aCons (eC (.int 3)) (aCons (eC (.int 4)) (aCons (eC (.int 2)) (aCons (eC (.int 3)) (aCons (eC (.int 5)) (aCons (eC (.int 4)) (aCons (eC (.int 1)) (aCons (eC (.int 3)) (aCons (eC (.int 0)) (aCons (eC (.int 4)) (aCons (eC (.int 6)) aNil))))))))))))) aNil))))
def d__law_size : IOF := fnI 2 2 b__law_size
def b__law_web : M Fl :=
  (sSeq (sAsg 2 (eCallI 0 d__law_size (aCons (eVar 1) aNil)))
  (sRet (eArgs tupD (aCons (eCallI 0 d__law_fresh (aCons (eVar 2) (aCons (eC (.lst [])) aNil))) (aCons (eCallI 0 d__law_ties (aCons (eVar 2) aNil)) aNil)))))
def d__law_web : IOF := fnI 2 3 b__law_web
def b__law_bare_ties : M Fl :=
  (sSeq (sAsg 2 (eCallI 0 d__law_mixed (aCons (eUn lrg1D (eVar 1)) aNil)))
  (sSeq (sAsg 3 (eSl slD (eVar 2) oNone (oSome (eBin addD (eC (.int 1)) (eCallI 0 d__law_draw (aCons (eVar 1) aNil))))))
  (sSeq (sAsgO 4 (eUn sortD (eComp (itOf rng1D (eUn lenD (eVar 3))) (tgN 5) (ret true) (eArgs tupD (aCons (eBin ixD (eVar 3) (eBin subD (eVar 5) (eC (.int 1)))) (aCons (eBin ixD (eVar 3) (eVar 5)) aNil))) [5])))
  (sSeq (sFor (itOf rng1D (eVar 1)) (tgN 6) [6, 7] (sFor (itOf rng1D (eVar 1)) (tgN 7) [7] (sIf (bAnd (tstB asBl (eBin eqD (eCallI 0 d__law_draw (aCons (eC (.int 3)) aNil)) (eC (.int 0)))) (bAnd (tstB asBl (eBin notInD (eArgs tupD (aCons (eVar 6) (aCons (eVar 7) aNil))) (eOwn 4))) (tstB truD (eCall d__law_is_bare [] (aCons (eBinO addD 4 (eArgs lstD (aCons (eArgs tupD (aCons (eVar 6) (aCons (eVar 7) aNil))) aNil))) (aCons (eVar 3) aNil)))))) (sDrop (eMeth1 isL 4 appD (eArgs tupD (aCons (eVar 6) (aCons (eVar 7) aNil))))) sNx)))
  (sRet (eUn sortD (eOwn 4)))))))
def d__law_bare_ties : IOF := fnI 2 8 b__law_bare_ties
def b__law_joined : M Fl :=
  (sSeq (sAsg 1 (eC (.lst [])))
  (sSeq (sFor (itOf seqItems (eVar 0)) (tgN 2) [2] (sAsg 1 (eBin addD (eVar 1) (eVar 2))))
  (sRet (eVar 1))))
def d__law_joined : PF := fnP 1 3 b__law_joined
def b__law_lots_told : M Fl :=
  (sSeq (sAsgO 2 (eC (.lst [])))
  (sSeq (sFor (eCallY d_lots_of [] (aCons (eVar 0) aNil)) (tgN 3) [3] (sSeq (sIf (tstB asBl (eBin geD (eUn lenD (eOwn 2)) (eUn lenD (eVar 1)))) (sRet (eC (.bl false))) sNx)
  (sDrop (eMeth1 isL 2 appD (eVar 3)))))
  (sRet (eBin eqD (eUn reprD (eOwn 2)) (eUn reprD (eVar 1))))))
def d__law_lots_told : PF := fnP 2 4 b__law_lots_told
def b_web_parts : M Fl :=
  (sSeq (sAsg 1 (eStr1 splitD (eVar 0) (eC (.str " "))))
  (sSeq (sIf (tstB asBl (eBin notInD (eC (.str ":")) (eVar 1))) no sNx)
  (sSeq (sAsg 2 (eLst1 idxD (eVar 1) (eC (.str ":"))))
  (sSeq (sAsg 3 (eSl slD (eVar 1) oNone (oSome (eVar 2))))
  (sSeq (sAsg 4 (eCall d_ties_of_words [] (aCons (eSl slD (eVar 1) (oSome (eBin addD (eVar 2) (eC (.int 1)))) oNone) aNil)))
  (sSeq (sIf (bOr (tstB asBl (eUn isNonD (eVar 4))) (bNot (tstB truD (eUn allTD (eComp (itOf seqItems (eVar 3)) (tgN 5) (ret true) (eCall d_is_name_wordlooks [] (aCons (eVar 5) aNil)) [5]))))) no sNx)
  (sRet (eArgs tupD (aCons (eVar 3) (aCons (eVar 4) aNil))))))))))
def d_web_parts : PF := fnP 1 6 b_web_parts
def b_Web : M Fl :=
  (sSeq (sDrop (eCall d_check_length [] (aCons (eVar 1) aNil)))
  (sSeq (sUnp [2, 3] (eCall d_web_parts [] (aCons (eVar 1) aNil)))
  (sSeq (sSetF 3 0 "rooms" (eCall d_checked_rooms [] (aCons (eVar 2) aNil)))
  (sSeq (sSetF 3 0 "ties" (eCall d_ordered_ties [] (aCons (eUn (fldD 3 "rooms") (eOwn 0)) (aCons (eVar 3) aNil))))
  (sSetF 3 0 "text" (eCall d_web_text [] (aCons (eUn (fldD 3 "rooms") (eOwn 0)) (aCons (eUn (fldD 3 "ties") (eOwn 0)) aNil))))))))
def d_Web : IOF := fnI 2 4 b_Web
def b_web_of : M Fl :=
  (sSeq (sAsg 3 (eCall d_checked_rooms [] (aCons (eVar 0) aNil)))
  (sSeq (sAsg 4 (eCall d_ordered_ties [] (aCons (eVar 3) (aCons (eVar 1) aNil))))
  (sSeq (sIf (bAnd (bNot (tstB truD (eVar 2))) (tstB truD (eComp (itOf seqItems (eVar 4)) (tgN 5) (tstB asBl (eBin eqD (eBin ixD (eVar 5) (eC (.int 0))) (eBin ixD (eVar 5) (eC (.int 1))))) (eVar 5) [5]))) no sNx)
  (sRet (eMake 3 d_Web [] (aCons (eCall d_web_text [] (aCons (eVar 3) (aCons (eVar 4) aNil))) aNil))))))
def d_web_of : PF := fnP 3 6 b_web_of
def b__law_web_by : M Fl :=
  (sSeq (sAsg 3 (eCall d__law_pairs [] (aCons (eVar 1) (aCons (eCallI 0 d__law_mixed (aCons (eVar 2) aNil)) aNil))))
  (sSeq (sAsg 3 (eBin addD (eVar 3) (eSl slD (eVar 3) oNone (oSome (eCallI 0 d__law_draw (aCons (eC (.int 3)) aNil))))))
  (sSeq (sIf (tstB asBl (eBin eqD (eCallI 0 d__law_draw (aCons (eC (.int 2)) aNil)) (eC (.int 0)))) (sRet (eMake 3 d_Web [] (aCons (eCall d__law_xtext [] (aCons (eVar 1) (aCons (eVar 3) aNil))) aNil))) sNx)
  (sRet (eCall d_web_of [.bl true] (aCons (eUn listD (eVar 1)) (aCons (eVar 3) aNil)))))))
def d__law_web_by : IOF := fnI 3 4 b__law_web_by
def b__law_lots : M Fl :=
  (sSeq (sPar 2 3 false true (eComp (itOf rng1D (eVar 0)) (tgN 4) (ret true) (eCall d__law_tellers [] (aCons (eVar 1) (aCons (eVar 4) aNil))) [4]) (eC (.lst [])))
  (sSeq (sFor (it2 rng2D (eC (.int 1)) (eBin shlD (eC (.int 1)) (eVar 0))) (tgN 5) [5, 6] (sSeq (sAsg 6 (eComp (itOf rng1D (eVar 0)) (tgN 4) (tstB truD (eBin bandD (eBin shrD (eVar 5) (eVar 4)) (eC (.int 1)))) (eVar 4) [4]))
  (sIf (tstB truD (eUn allTD (eComp (itOf seqItems (eVar 6)) (tgN 4) (ret true) (eBin ixD (eVar 2) (eVar 4)) [4]))) (sSeq (sAsg 7 (eCall d__law_joined [] (aCons (eComp (itOf seqItems (eVar 6)) (tgN 4) (ret true) (eBin ixD (eVar 2) (eVar 4)) [4]) aNil)))
  (sIf (bAnd (tstB asBl (eBin eqD (eUn lenSetD (eVar 7)) (eUn lenD (eVar 7)))) (tstB truD (eUn allTD (eComp (itOf seqItems (eVar 6)) (tgN 4) (ret true) (eBin inD (eVar 4) (eVar 7)) [4])))) (sDrop (eMeth1 isL 3 appD (eVar 6))) sNx)) sNx)))
  (sSeq (frzS 3) (sRet (eVar 3)))))
def d__law_lots : PF := fnP 2 8 b__law_lots
def b_law : M Fl :=
  (sSeq (sAsgO 1 (eCall d__law_bag [] (aCons (eVar 0) aNil)))
  (sSeq (sUnp [2, 3] (eCallI 1 d__law_web (aCons (eC (.int 6)) aNil)))
  (sSeq (sAsg 4 (eBin addD (eC (.int 5)) (eCallI 1 d__law_draw (aCons (eC (.int 4)) aNil))))
  (sSeq (sPar 5 6 false false (eCallI 1 d__law_fresh (aCons (eVar 4) (aCons (eVar 2) aNil))) (eCallI 1 d__law_mixed (aCons (eUn lrg1D (eVar 4)) aNil)))
  (sSeq (sAsg 7 (eComp (itOf rng1D (eVar 4)) (tgN 8) (ret true) (eArgs tupD (aCons (eBin ixD (eVar 6) (eBin subD (eVar 8) (eC (.int 1)))) (aCons (eBin ixD (eVar 6) (eVar 8)) aNil))) [8]))
  (sSeq (sFor (itOf rng1D (eCallI 1 d__law_draw (aCons (eC (.int 4)) aNil))) (tgN 9) [9, 10] (sSeq (sAsg 10 (eArgs tupD (aCons (eCallI 1 d__law_draw (aCons (eVar 4) aNil)) (aCons (eCallI 1 d__law_draw (aCons (eVar 4) aNil)) aNil))))
  (sAsg 7 (eIf (tstB asBl (eBin inD (eVar 10) (eVar 7))) (eVar 7) (eBin addD (eVar 7) (eArgs lstD (aCons (eVar 10) aNil)))))))
  (sSeq (sAsg 11 (eCallI 1 d__law_of (aCons (eArgs lstD (aCons (eC (.int 2)) (aCons (eC (.int 3)) (aCons (eC (.int 4)) (aCons (eC (.int 1)) aNil))))) aNil)))
  (sSeq (sPar 12 13 false false (eCallI 1 d__law_fresh (aCons (eVar 11) (aCons (eC (.lst [])) aNil))) (eCallI 1 d__law_bare_ties (aCons (eVar 11) aNil)))
  (sSeq (sAsg 14 (eCallI 1 d__law_web_by (aCons (eVar 2) (aCons (eVar 3) aNil))))
  (sSeq (sAsg 15 (eComp (itOf seqItems (eCall d__law_lots [] (aCons (eUn lenD (eVar 2)) (aCons (eVar 3) aNil)))) (tgN 16) (ret true) (eCall d__law_named [] (aCons (eVar 2) (aCons (eVar 16) aNil))) [16]))
  (sSeq (sIf (bOr (bNot (tstB truD (eCall d__law_lots_told [] (aCons (eVar 14) (aCons (eVar 15) aNil))))) (tstB asBl (eBin neD (eBin eqD (eVar 15) (eC (.lst []))) (eBin eqD (eCall d__law_bares [] (aCons (eUn lenD (eVar 2)) (aCons (eVar 3) aNil))) (eC (.lst [])))))) (sRet (eC (.bl false))) sNx)
  (sSeq (sAsg 17 (eComp (itOf seqItems (eCall d__law_lots [] (aCons (eVar 4) (aCons (eVar 7) aNil)))) (tgN 16) (ret true) (eCall d__law_named [] (aCons (eVar 5) (aCons (eVar 16) aNil))) [16]))
  (sSeq (sAsg 18 (eComp (itOf seqItems (eCall d__law_lots [] (aCons (eVar 11) (aCons (eVar 13) aNil)))) (tgN 16) (ret true) (eCall d__law_named [] (aCons (eVar 12) (aCons (eVar 16) aNil))) [16]))
  (sSeq (sIf (bOr (bNot (tstB truD (eCall d__law_lots_told [] (aCons (eCallI 1 d__law_web_by (aCons (eVar 5) (aCons (eVar 7) aNil))) (aCons (eVar 17) aNil))))) (tstB asBl (eBin eqD (eVar 18) (eC (.lst []))))) (sRet (eC (.bl false))) sNx)
  (sRet (eAndV (eCall d__law_lots_told [] (aCons (eCallI 1 d__law_web_by (aCons (eVar 12) (aCons (eVar 13) aNil))) (aCons (eVar 18) aNil))) (eCall d__law_lots_told [] (aCons (eVar 14) (aCons (eVar 15) aNil)))))))))))))))))))
def d_law : PF := fnP 1 19 b_law
end K47

/-! ## K47e1 -/
namespace K47
open PySem L2 DL
def BagD (cells : List Int) (i r n s : Nat) : D := .lst [.lst (cells.map .int), .int i, .int r, .int n, .int s]
def Bag (x : D) : Prop := ∃ cells i r n s, x = BagD cells i r n s ∧ s < 2147483647 ∧ cells.length ≤ 63
theorem bag_mk {cells : List Int} {i r n : Nat} {s' : Int} (hc : cells.length ≤ 63) (h0 : 0 ≤ s') (h : s' < 2147483647) : Bag (.lst [.lst (cells.map .int), .int i, .int r, .int n, .int s']) := by
  obtain ⟨k, rfl⟩ := Int.eq_ofNat_of_zero_le h0
  exact ⟨cells, i, r, n, k, rfl, by omega, hc⟩
/-- the end of a draw -/
def b_draw_end : M Fl := (sSeq (sIf (tstB asBl (eBin gtD (eBinO ixD 0 (eC (.int 2))) (eC (.int 0)))) (sSeq (sAsg 3 (eBin modD (eUn intD (eBinO ixD 0 (eC (.int 2)))) (eVar 1)))
  (sSeq (sSetL 0 (eC (.int 2)) (eBin divD (eBinO ixD 0 (eC (.int 2))) (eVar 1)))
  (sRet (eVar 3)))) sNx)
  (sSeq (sAsg 4 (eUn intD (eBinO ixD 0 (eC (.int 4)))))
  (sSeq (sSetL 0 (eC (.int 4)) (eBin modD (eUn intD (eBin addD (eBin addD (eBin addD (eBin powD (eVar 4) (eC (.int 3))) (eBin mulD (eVar 4) (eC (.int 52361)))) (eBin mulD (eBinO ixD 0 (eC (.int 3))) (eC (.int 1104427)))) (eC (.int 30011)))) (eC (.int 2147483647))))
  (sRet (eBin modD (eUn intD (eBin addD (eBin divD (eBinO ixD 0 (eC (.int 4))) (eC (.int 89))) (eBin mulD (eBin modD (eUn intD (eBinO ixD 0 (eC (.int 4)))) (eC (.int 7879))) (eC (.int 67))))) (eVar 1))))))
theorem draw_end {cells : List Int} {i r n s lim : Nat} {q : Slot} (hs : s < 2147483647) (hc : cells.length ≤ 63) (h : 1 ≤ lim) (h2 : lim < 2 ^ 60) :
    Ev b_draw_end [.own (BagD cells i r n s), .sh (.int lim), q, .un, .un] (RtI fun d x' => ∃ r : Nat, d = .int r ∧ r < lim ∧ Bag x') := by
  have l1 : 0 < lim := by omega
  have l2 : (lim : Int) < 18446744073709551616 := by omega
  have l3 : s < 18446744073709551616 := by omega
  unfold b_draw_end BagD
  refine Ev.of ?_
  simp (dsimp := false) [ixD_lst, atI, ixN, setLD]
  refine BrH.both (fun e => ?_) fun e => ?_
  · simp (dsimp := false) [ixD_lst, atI, ixN, setLD, l1, l2]
    exact ⟨r % lim, by simp, Nat.mod_lt _ h, cells, i, r / lim, n, s, by simp [BagD], hs, hc⟩
  · simp (dsimp := false) [ixD_lst, atI, ixN, setLD, l1, l2, l3]
    generalize ((s : Int) ^ 3 + s * 52361 + n * 1104427 + 30011) % 2147483647 / 89 + ((s : Int) ^ 3 + s * 52361 + n * 1104427 + 30011) % 2147483647 % 7879 * 67 = y
    have h4 := Int.emod_nonneg y (b := (lim : Int)) (by omega)
    have h5 := Int.emod_lt_of_pos y (b := (lim : Int)) (by omega)
    exact ⟨(y % lim).toNat, by omega, by omega, bag_mk hc (Int.emod_nonneg _ (by decide)) (Int.emod_lt_of_pos _ (by decide))⟩
theorem draw_ok {x : D} (hx : Bag x) {lim : Nat} (h : 1 ≤ lim) (h2 : lim < 2 ^ 60) : ∃ d x', d__law_draw x [.int lim] = .ok d x' ∧ ∃ r : Nat, d = .int r ∧ r < lim ∧ Bag x' := by
  obtain ⟨cells, i, r, n, s, rfl, hs, hc⟩ := hx
  refine fnI_of rfl ?_
  show Ev (sSeq _ (sSeq _ b_draw_end)) _ _
  unfold BagD
  refine Ev.of ?_
  simp (dsimp := false) [ixD_lst, atI, ixN, setLD]
  refine BrH.both (fun e => ?_) fun e => ?_
  · simp (dsimp := false) [ixD_lst, atI, ixN, setLD]
    refine BrH.both (fun e2 => ?_) fun e2 => ?_
    · have hi : i < cells.length := by simpa using e2
      simp (dsimp := false) [ixD_lst, atI, ixN, setLD, hi]
      refine BrH.both (fun e3 => ?_) fun e3 => ?_
      · simp (dsimp := false) [ixD_lst, atI, ixN, setLD, hi]
        have h0 : 0 ≤ cells[i] := by simp at e3; omega
        obtain ⟨k, hk⟩ := Int.eq_ofNat_of_zero_le h0
        rw [hk]
        exact draw_end (n := n + 1) (i := i + 1) hs hc h h2
      · simp (dsimp := false) [ixD_lst, atI, ixN, setLD, hi]
        generalize ((s : Int) * 38653 + cells[i] % 2147483587 * 7417 + 509) = y
        have h4 := Int.emod_nonneg y (b := 2147483647) (by omega)
        have h5 := Int.emod_lt_of_pos y (b := 2147483647) (by omega)
        obtain ⟨k, hk⟩ := Int.eq_ofNat_of_zero_le h4
        rw [hk]
        exact draw_end (n := n + 1) (i := i + 1) (by omega) hc h h2
    · simp (dsimp := false) [ixD_lst, atI, ixN, setLD]
      exact draw_end (n := n + 1) hs hc h h2
  · simp (dsimp := false) [ixD_lst, atI, ixN, setLD]
    exact draw_end (n := n + 1) hs hc h h2
end K47

/-! ## K47e2 -/
namespace K47
open PySem L2 DL
theorem of_list {x : D} {ds : List D} (hx : Bag x) (h : ds ≠ []) (hl : ds.length < 2 ^ 60) : ∃ d y, d__law_of x [.lst ds] = .ok d y ∧ d ∈ ds ∧ Bag y := by
  refine fnI_of rfl ?_
  unfold b__law_of
  refine Ev.of ?_
  simp (dsimp := false)
  have h1 : 1 ≤ ds.length := List.length_pos_iff.2 h
  obtain ⟨_, y, e, r, rfl, hr, hy⟩ := draw_ok hx h1 hl
  refine CiH.mk e ?_
  simp (dsimp := false) [ixD_l (List.getElem?_eq_getElem hr), hy]
theorem of_str {x : D} {z : Str} (hx : Bag x) (h : 1 ≤ z.length) (hl : z.length ≤ 16777216) : ∃ d y, d__law_of x [.str z] = .ok d y ∧ (∃ c ∈ z.cps.toList, d = .str ⟨#[c]⟩) ∧ Bag y := by
  refine fnI_of rfl ?_
  unfold b__law_of
  refine Ev.of ?_
  simp (dsimp := false) [lenD_str hl]
  obtain ⟨_, y, e, r, rfl, hr, hy⟩ := draw_ok hx h (by omega)
  have hz : r < z.cps.toList.length := by simpa [Str.length] using hr
  refine CiH.mk e ?_
  simp (dsimp := false) [ixD_s hl (List.getElem?_eq_getElem hz), hy]
theorem mixed_ok {β : Type} {enc : β → D} {xs : List β} {x : D} (hx : Bag x) (hl : xs.length < 2 ^ 20) : ∃ d y, d__law_mixed x [.lst (xs.map enc)] = .ok d y ∧ ∃ ys : List β, d = .lst (ys.map enc) ∧ ys.Perm xs ∧ Bag y := by
  refine fnI_of rfl ?_
  unfold b__law_mixed
  refine Ev.of ?_
  simp (dsimp := false) [rng1D_nat (show xs.length < 2 ^ 62 by omega)]
  refine EvH.of (ev_forR (fun i s => ∃ (b : D) (rest found : List β), s = [.own b, .sh (.lst (xs.map enc)), .own (.lst (rest.map enc)), .own (.lst (found.map enc)), .un] ∧ Bag b ∧ (found ++ rest).Perm xs ∧ found.length = i ∧ i ≤ xs.length) ?_ ?_ ?_)
  · exact ⟨x, xs, [], by simp, hx, .refl _, by simp, by simp⟩
  · rintro i s hi ⟨b, rest, found, rfl, hb, hp, hf, _⟩
    have hlen : found.length + rest.length = xs.length := by simpa using hp.length_eq
    apply Ev.of
    simp (dsimp := false)
    obtain ⟨_, y, e, r, rfl, hr, hy⟩ := draw_ok (lim := rest.length) hb (by omega) (by omega)
    refine CiH.mk e ?_
    simp (dsimp := false) [popAtD_nat (ds := rest.map enc) (n := r) (d := enc rest[r]) (by simp [hr]) (by omega), appD_lst (ds := found.map enc) (by simp; omega)]
    refine ⟨y, rest.eraseIdx r, found ++ [rest[r]], ⟨rfl, by rw [List.eraseIdx_eq_take_drop_succ, List.eraseIdx_eq_take_drop_succ]; simp, by simp⟩, hy, ?_, by simp; omega, hi⟩
    refine List.Perm.trans ?_ hp
    rw [List.append_assoc]
    refine List.Perm.append_left _ ?_
    have : rest = rest.take r ++ rest[r] :: rest.drop (r + 1) := by simp
    rw [List.eraseIdx_eq_take_drop_succ]
    conv => rhs; rw [this]
    simp only [List.singleton_append]
    exact List.perm_middle.symm
  · rintro s ⟨b, rest, found, rfl, hb, hp, hf, _⟩
    have hlen : found.length + rest.length = xs.length := by simpa using hp.length_eq
    have : rest = [] := List.length_eq_zero_iff.1 (by omega)
    subst this
    simp (dsimp := false)
    exact ⟨found, rfl, by simpa using hp, hb⟩
theorem bag_ok {ns : List Int} : ∃ d, d__law_bag [.scr ns] = .ok d ∧ Bag d := by
  refine fnF_eq rfl ?_
  unfold b__law_bag l__law_bag
  refine Ev.of ?_
  have e : slD (.scr ns) none (some 63) = some (.lst ((ns.take 63).map .int)) := by
    rw [slD_scr, show (63 : Int) = ((63 : Nat) : Int) from rfl, cutD_to]
  simp (dsimp := false) [e, -List.map_take]
  refine EvH.of (ev_for (enc := D.int) (fun pre post s => ∃ m : Nat, m < 2147483647 ∧ s = [.sh (.scr ns), .sh (.int m), .un]) ?_ ?_ ?_)
  · exact ⟨1299709, by decide, by simp⟩
  · rintro pre c post s _ ⟨m, hm, rfl⟩
    apply Ev.of
    simp (dsimp := false)
    generalize ((m : Int) * 72931 + c % 2147483629 + 811) = y
    have h4 := Int.emod_nonneg y (b := 2147483647) (by omega)
    have h5 := Int.emod_lt_of_pos y (b := 2147483647) (by omega)
    obtain ⟨k, hk⟩ := Int.eq_ofNat_of_zero_le h4
    exact ⟨k, by omega, by rw [hk]⟩
  · rintro s ⟨m, hm, rfl⟩
    simp (dsimp := false) [e, lstD, DL.sizeLine_eq, -List.map_take]
    exact ⟨ns.take 63, 0, 0, 0, m, by simp [BagD], hm, by simp; omega⟩
end K47

/-! ## K47e3 -/
namespace K47
open PySem L2 DL
/-! ### names -/
def isLet (c : Nat) : Bool := (decide (65 ≤ c) && decide (c ≤ 90)) || (decide (97 ≤ c) && decide (c ≤ 122))
def isRun (c : Nat) : Bool := isLet c || (decide (48 ≤ c) && decide (c ≤ 57)) || c == 95
abbrev ch (c : Nat) : Str := ⟨#[c]⟩
theorem chD_eq {z : Str} : chD z = z.cps.toList.map fun c => D.str (ch c) := rfl
theorem let_mem {c : Nat} (h : isLet c = true) : c ∈ ("ABCDEFGHIJKLMNOPQRSTUVWXYZabcdefghijklmnopqrstuvwxyz" : Str).cps.toList := by
  have key : ∀ c, c < 128 → isLet c = true → c ∈ ("ABCDEFGHIJKLMNOPQRSTUVWXYZabcdefghijklmnopqrstuvwxyz" : Str).cps.toList := by decide +kernel
  refine key c ?_ h
  simp [isLet] at h; omega
theorem fig_mem {c : Nat} (h : 48 ≤ c) (h2 : c ≤ 57) : c ∈ ("0123456789" : Str).cps.toList := by
  have key : ∀ c, c < 58 → 48 ≤ c → c ∈ ("0123456789" : Str).cps.toList := by decide +kernel
  exact key c (by omega) h
theorem run_small {c : Nat} (h : isRun c = true) : c < 128 := by simp [isRun, isLet] at h; omega
theorem run_let {c : Nat} (h : isLet c = true) : isRun c = true := by simp [isRun, h]
structure NameOk (z : Str) : Prop where
  lo : 1 ≤ z.length
  hi : z.length ≤ 16
  fst : ∃ c r, z.cps.toList = c :: r ∧ isLet c = true
  run : ∀ c ∈ z.cps.toList, isRun c = true
  no : z ∉ l_NO_NAMES
theorem strOk_of {z : Str} (h : ∀ c ∈ z.cps.toList, c < 128) : PyData.strOk z = true := by
  unfold PyData.strOk
  rw [← Array.all_toList]
  exact List.all_eq_true.2 fun c hc => decide_eq_true (by have := h c hc; omega)
theorem NameOk.ok {z : Str} (h : NameOk z) : PyData.strOk z = true := strOk_of fun c hc => run_small (h.run c hc)
theorem NameOk.fine {z : Str} {k : Nat} (h : NameOk z) : Fine k (.str z) := fine_str h.ok
theorem len_cps {z : Str} : z.cps.toList.length = z.length := by simp [Str.length]
theorem run_ok {c : Nat} (h : isRun c = true) : d_is_run_character [.str (ch c)] = .ok (.bl true) := by
  refine fnP_eq rfl ?_
  unfold b_is_run_character
  refine Ev.of ?_
  have hc : PyData.strOk (ch c) = true := strOk_of fun x hx => by simp [ch] at hx; subst hx; exact run_small h
  have e : eqD (.str (ch c)) (.str "_") = some (.bl (ch c == "_")) := eqD_str hc (by decide +kernel)
  simp (dsimp := false) [inD, inT_char, e]
  refine BrH.both (fun a => rfl) fun a => ?_
  simp (dsimp := false) [inD, inT_char, e]
  refine BrH.both (fun b => rfl) fun b => ?_
  simp (dsimp := false) [inD, inT_char, e]
  have h1 : ¬ isLet c = true := fun z => (decide_eq_false_iff_not.1 a) (by simpa using let_mem z)
  have h2 : ¬ (48 ≤ c ∧ c ≤ 57) := fun z => (decide_eq_false_iff_not.1 b) (by simpa using fig_mem z.1 z.2)
  have h3 : c = 95 := by
    simp only [isRun, Bool.or_eq_true, Bool.and_eq_true, decide_eq_true_eq, beq_iff_eq] at h
    rcases h with (h | h) | h
    · exact absurd h h1
    · exact absurd h h2
    · exact h
  subst h3
  decide +kernel
theorem noNames_flat : ∀ d ∈ l_NO_NAMES.map D.str, flatD d = true := by
  intro d hd
  obtain ⟨z, _, rfl⟩ := List.mem_map.1 hd
  rfl
theorem inNo {z : Str} : inD (.str z) g_NO_NAMES = some (.bl (decide (z ∈ l_NO_NAMES))) := by
  unfold inD g_NO_NAMES
  rw [inT_tup rfl noNames_flat, inTup_map (enc := D.str) (fun a _ => eqv_str)]
  rfl
theorem nameforms_ok {z : Str} (h : NameOk z) : d_is_name_nameforms [.str z] = .ok (.bl true) := by
  refine fnP_eq rfl ?_
  unfold b_is_name_nameforms
  refine Ev.of ?_
  obtain ⟨c, r, hz, hc⟩ := h.fst
  have hl : z.length ≤ 16777216 := by have := h.hi; omega
  have e0 : ixD (.str z) (.int 0) = some (.str (ch c)) := ixD_s (n := 0) hl (by simp [hz])
  have h1 := h.lo
  have h2 := h.hi
  have g1 : decide ((z.length : Int) < 1) = false := by simp; omega
  have g2 : decide ((16 : Int) < z.length) = false := by simp; omega
  have g3 : notInD (.str (ch c)) (.str "ABCDEFGHIJKLMNOPQRSTUVWXYZabcdefghijklmnopqrstuvwxyz") = some (.bl false) := by
    unfold notInD; rw [inT_char, decide_eq_true (let_mem hc)]; rfl
  have g4 : inD (.str z) g_NO_NAMES = some (.bl false) := by rw [inNo, decide_eq_false h.no]
  simp (dsimp := false) [lenD_str hl, e0, g1, g2, g3, g4, chD_eq]
  refine EvH.of (ev_for (enc := fun c => D.str (ch c)) (fun pre post s => s = [.sh (.str z), .un]) ?_ ?_ ?_)
  · rfl
  · rintro pre c post s e rfl
    have hr : isRun c = true := h.run c (by rw [← e]; simp)
    refine Ev.of ?_
    simp (dsimp := false) [run_ok hr]
  · rintro s rfl
    simp (dsimp := false)
theorem name_of_ok {z : Str} (h : NameOk z) : d_name_of [.str z] = .ok (.str z) := by
  refine fnP_eq rfl ?_
  unfold b_name_of
  refine Ev.of ?_
  simp (dsimp := false) [nameforms_ok h]
theorem wordlooks_ok {z : Str} (h : NameOk z) : d_is_name_wordlooks [.str z] = .ok (.bl true) := by
  refine fnP_eq rfl ?_
  unfold b_is_name_wordlooks
  refine Ev.of ?_
  simp (dsimp := false) [name_of_ok h]
/-! ### the dict of first_doubtful, of teller_bits -/
theorem getA_map {β : Type} {l : List β} {k : β → Str} {v : β → D} {z : Str} (h : ∀ b ∈ l, k b ≠ z) : getA (l.map fun b => (.inr (k b), v b)) (.inr z) = none := by
  unfold getA
  rw [List.find?_eq_none.2]
  · rfl
  · intro x hx
    obtain ⟨b, hb, rfl⟩ := List.mem_map.1 hx
    have := h b hb
    simpa using this
theorem putA_map {β : Type} {l : List β} {k : β → Str} {v : β → D} {z : Str} {d : D} (h : ∀ b ∈ l, k b ≠ z) : putA (l.map fun b => (.inr (k b), v b)) (.inr z) d = (l.map fun b => (.inr (k b), v b)) ++ [(.inr z, d)] := by
  unfold putA
  rw [if_neg]
  intro hx
  obtain ⟨x, hx, e⟩ := List.any_eq_true.1 hx
  obtain ⟨b, hb, rfl⟩ := List.mem_map.1 hx
  have := h b hb
  simp at e
  exact this e
theorem doubtful_ok {zs : List Str} (h : ∀ z ∈ zs, NameOk z) (hn : zs.Nodup) (hl : zs.length ≤ 1000) : d_first_doubtful [.lst (zs.map .str)] = .ok (.int (-1)) := by
  refine fnP_eq rfl ?_
  unfold b_first_doubtful
  refine Ev.of ?_
  simp (dsimp := false) [enuD]
  refine EvH.of (ev_forI (fun i s => s = [.sh (.lst (zs.map .str)), .own (.dct ((zs.take i).map fun z => (.inr z, .bl true))), .un, .un]) ?_ ?_ ?_)
  · simp
  · rintro i s hi rfl
    refine Ev.of ?_
    have e1 : (Option.map D.str zs[i]?).getD .non = .str zs[i] := by simp [hi]
    have hz := h zs[i] (List.getElem_mem hi)
    have hnot : ∀ b ∈ zs.take i, b ≠ zs[i] := by
      intro b hb e
      obtain ⟨j, hj, rfl⟩ := List.getElem_of_mem hb
      simp at hj
      rw [List.getElem_take] at e
      have := (List.getElem_inj hn).1 e
      omega
    have g1 : dinD (.str zs[i]) (.dct ((zs.take i).map fun z => (.inr z, .bl true))) = some (.bl false) := by
      simp only [dinD, keyD, Option.map_some, getA_map (k := fun z => z) (v := fun _ => D.bl true) hnot]
      rfl
    have g2 : setDD (.bl true) (.str zs[i]) (.dct ((zs.take i).map fun z => (.inr z, .bl true))) = some ((), .dct ((zs.take (i + 1)).map fun z => (.inr z, .bl true))) := by
      simp only [setDD, keyD, Option.bind_some]
      rw [if_pos (by rw [DL.sizeLine_eq]; simp; omega), putA_map (k := fun z => z) (v := fun _ => D.bl true) hnot]
      rw [List.take_succ, List.getElem?_eq_getElem hi, List.map_append]; rfl
    simp (dsimp := false) [e1, nameforms_ok hz, g1, g2, -List.map_take]
  · rintro s rfl
    simp (dsimp := false)
theorem names_of_ok {zs : List Str} (h : ∀ z ∈ zs, NameOk z) (hn : zs.Nodup) (hl : zs.length ≤ 1000) : d_names_of [.lst (zs.map .str)] = .ok (.tup (zs.map .str)) := by
  refine fnP_eq rfl ?_
  unfold b_names_of
  refine Ev.of ?_
  simp (dsimp := false) [doubtful_ok h hn hl]
theorem checked_rooms_ok {zs : List Str} (h : ∀ z ∈ zs, NameOk z) (hn : zs.Nodup) (hl : zs.length ≤ 12) : d_checked_rooms [.lst (zs.map .str)] = .ok (.tup (zs.map .str)) := by
  refine fnP_eq rfl ?_
  unfold b_checked_rooms
  refine Ev.of ?_
  have g : decide ((12 : Int) < zs.length) = false := by simp; omega
  simp (dsimp := false) [names_of_ok h hn (by omega), g]
end K47

/-! ## K47e4 -/
namespace DL
open PySem L2
/-- one statement behind the other -/
theorem ev_seq {f g : M Fl} {s : Sl} {Q : Fl → Sl → Prop} (R : Sl → Prop) (h1 : Ev f s fun fl s1 => fl = .nx ∧ R s1) (h2 : ∀ s1, R s1 → Ev g s1 Q) : Ev (sSeq f g) s Q := by
  rw [ev_sSeq]
  refine h1.mono ?_
  rintro fl s1 ⟨rfl, h⟩
  rw [ev_seqK_nx]
  exact h2 s1 h
/-! ### a text cut at a sign -/
theorem cut_uniq {c : Nat} : ∀ {x y a b : List Nat}, c ∉ x → c ∉ y → x ++ c :: a = y ++ c :: b → x = y ∧ a = b
  | [], [], a, b, _, _, e => ⟨rfl, by simpa using e⟩
  | [], d :: y, a, b, _, hy, e => by simp at e; exact absurd e.1 (fun z => hy (by simp [z]))
  | d :: x, [], a, b, hx, _, e => by simp at e; exact absurd e.1.symm (fun z => hx (by simp [z]))
  | d :: x, k :: y, a, b, hx, hy, e => by
    simp at e
    obtain ⟨e1, e2⟩ := cut_uniq (x := x) (y := y) (fun z => hx (by simp [z])) (fun z => hy (by simp [z])) e.2
    exact ⟨by rw [e.1, e1], e2⟩
theorem join_cons {sep x y : Str} {r : List Str} : Str.join sep (x :: y :: r) = x ++ sep ++ Str.join sep (y :: r) := rfl
theorem join_uniq {c : Nat} : ∀ {xs ys : List Str}, xs ≠ [] → ys ≠ [] → (∀ x ∈ xs, c ∉ x.cps.toList) → (∀ y ∈ ys, c ∉ y.cps.toList) → Str.join ⟨#[c]⟩ xs = Str.join ⟨#[c]⟩ ys → xs = ys
  | [], _, h, _, _, _, _ => absurd rfl h
  | _, [], _, h, _, _, _ => absurd rfl h
  | [x], [y], _, _, _, _, e => by have e' : x = y := e; rw [e']
  | [x], y :: y2 :: ys, _, _, hx, hy, e => by
    exfalso
    have e' : x = _ := e
    rw [join_cons] at e'
    refine hx x (by simp) ?_
    rw [e']
    simp [PySem.Str.cps_append]
  | x :: x2 :: xs, [y], _, _, hx, hy, e => by
    exfalso
    have e' : _ = y := e
    rw [join_cons] at e'
    refine hy y (by simp) ?_
    rw [← e']
    simp [PySem.Str.cps_append]
  | x :: x2 :: xs, y :: y2 :: ys, _, _, hx, hy, e => by
    rw [join_cons, join_cons] at e
    have e2 := congrArg (fun z : Str => z.cps.toList) e
    simp only [PySem.Str.cps_append, Array.toList_append, List.append_assoc] at e2
    have e3 := cut_uniq (c := c) (x := x.cps.toList) (y := y.cps.toList) (a := (Str.join ⟨#[c]⟩ (x2 :: xs)).cps.toList) (b := (Str.join ⟨#[c]⟩ (y2 :: ys)).cps.toList) (hx x (by simp)) (hy y (by simp)) (by simpa using e2)
    have h1 : x = y := PySem.Str.ext' (Array.toList_inj.1 e3.1)
    have h2 := join_uniq (xs := x2 :: xs) (ys := y2 :: ys) (by simp) (by simp) (fun z hz => hx z (by simp at hz ⊢; exact .inr hz)) (fun z hz => hy z (by simp at hz ⊢; exact .inr hz)) (PySem.Str.ext' (Array.toList_inj.1 e3.2))
    rw [h1, h2]
theorem split_ne (x y : Str) : Txt.split x y ≠ [] := by
  unfold Txt.split
  split
  · simp
  · split
    · simp
    · rw [PySem.StrLaws.partsBetween_eq]
      obtain ⟨p, r, e⟩ := PySem.StrLaws.partsFrom_ne x y.length 0 (Builtin.Str.occurrences x y 0 x.length (x.length + 1))
      rw [e]; simp
theorem split_join {c : Nat} {ws : List Str} (hne : ws ≠ []) (h : ∀ w ∈ ws, c ∉ w.cps.toList) : Txt.split (Str.join ⟨#[c]⟩ ws) ⟨#[c]⟩ = ws :=
  join_uniq (split_ne _ _) hne (PySem.StrLaws.split_free _ c) h (PySem.StrLaws.join_split _ _)
theorem splitD_join {c : Nat} {ws : List Str} (hne : ws ≠ []) (h : ∀ w ∈ ws, c ∉ w.cps.toList) (hl : (Str.join ⟨#[c]⟩ ws).length + 2 ≤ 16777216) : splitD (.str (Str.join ⟨#[c]⟩ ws)) (.str ⟨#[c]⟩) = some (.lst (ws.map .str)) := by
  show (if _ then _ else _) = _
  rw [if_pos ⟨rfl, hl⟩, split_join hne h]
theorem nodup_le {α : Type} [DecidableEq α] : ∀ {l m : List α}, l.Nodup → (∀ x ∈ l, x ∈ m) → l.length ≤ m.length
  | [], _, _, _ => Nat.zero_le _
  | a :: l, m, h, s => by
    have ha := s a (by simp)
    rw [List.nodup_cons] at h
    have := nodup_le (l := l) (m := m.erase a) h.2 fun x hx => (List.mem_erase_of_ne (fun e => h.1 (by rw [← e]; exact hx))).2 (s x (by simp [hx]))
    rw [List.length_erase_of_mem ha] at this
    have : 0 < m.length := List.length_pos_of_mem ha
    simp; omega
end DL
namespace K47
open PySem L2 DL
theorem closed_ok : d__law_closed [] = .ok (.lst (l_NO_NAMES.map .str)) := by
  refine fnP_eq rfl ?_
  unfold b__law_closed
  refine Ev.of ?_
  have e1 : ("and chance done else game hear if mod model not or pack program room rooms row score share spots start straight then turn web wiring word" : Str) = Str.join ⟨#[32]⟩ l_NO_NAMES := by decide +kernel
  have e2 : (" " : Str) = ⟨#[32]⟩ := by decide +kernel
  have e3 := splitD_join (c := 32) (ws := l_NO_NAMES) (by decide +kernel) (by decide +kernel) (by decide +kernel)
  rw [e1, e2]
  simp (dsimp := false) [e3]
/-- a label, perhaps a word that is no name -/
structure PreOk (z : Str) : Prop where
  lo : 1 ≤ z.length
  hi : z.length ≤ 16
  fst : ∃ c r, z.cps.toList = c :: r ∧ isLet c = true
  run : ∀ c ∈ z.cps.toList, isRun c = true
theorem NameOk.pre {z : Str} (h : NameOk z) : PreOk z := ⟨h.lo, h.hi, h.fst, h.run⟩
theorem PreOk.ok {z : Str} (h : PreOk z) : PyData.strOk z = true := strOk_of fun c hc => run_small (h.run c hc)
theorem preOk_mk {z : Str} {c : Nat} {r : List Nat} (e : z.cps.toList = c :: r) (hc : isLet c = true) (hr : ∀ c ∈ r, isRun c = true) (hl : r.length ≤ 15) : PreOk z := by
  have hz : z.length = r.length + 1 := by rw [← len_cps, e]; rfl
  refine ⟨by omega, by omega, ⟨c, r, e, hc⟩, fun d hd => ?_⟩
  rw [e] at hd
  rcases List.mem_cons.1 hd with rfl | hd
  · exact run_let hc
  · exact hr d hd
theorem no_let : ∀ w ∈ l_NO_NAMES, ∀ c ∈ w.cps.toList, isLet c = true := by decide +kernel
theorem no_len : ∀ w ∈ l_NO_NAMES, w.length ≤ 8 := by decide +kernel
theorem cps_app {a b : Str} : (a ++ b).cps.toList = a.cps.toList ++ b.cps.toList := by rw [PySem.Str.cps_append, Array.toList_append]
theorem len_app {a b : Str} : (a ++ b).length = a.length + b.length := PySem.Str.length_append a b
theorem under : ("_" : Str).cps.toList = [95] := by decide +kernel
theorem under_ok {z : Str} (h : PreOk z) (hz : z ∈ l_NO_NAMES) : NameOk (z ++ "_") := by
  have hl := no_len z hz
  obtain ⟨c, r, e, hc⟩ := h.fst
  have e2 : (z ++ ("_" : Str)).cps.toList = c :: (r ++ [95]) := by rw [cps_app, e, under]; rfl
  have hl2 : r.length + 1 = z.length := by rw [← len_cps, e]; rfl
  have p : PreOk (z ++ "_") := preOk_mk e2 hc (fun d hd => by
    rcases List.mem_append.1 hd with hd | hd
    · exact h.run d (by rw [e]; simp [hd])
    · simp at hd; subst hd; rfl) (by simp; omega)
  refine ⟨p.lo, p.hi, p.fst, p.run, fun z' => ?_⟩
  have := no_let _ z' 95 (by rw [e2]; simp)
  exact absurd this (by decide)
def num (n : Nat) : Str := Str.ofString (toString ((n : Nat) : Int))
theorem num_fig : ∀ n, n < 99 → ∀ c ∈ (num n).cps.toList, 48 ≤ c ∧ c ≤ 57 := by decide +kernel
theorem num_len : ∀ n, n < 99 → 1 ≤ (num n).length ∧ (num n).length ≤ 2 := by decide +kernel
def dec (l : List Nat) : Nat := l.foldl (fun a c => 10 * a + (c - 48)) 0
theorem num_dec : ∀ n, n < 99 → dec (num n).cps.toList = n := by decide +kernel
theorem num_inj (n : Nat) (hn : n < 99) (m : Nat) (hm : m < 99) (e : num n = num m) : n = m := by
  rw [← num_dec n hn, ← num_dec m hm, e]
theorem cand_ok {z y : Str} {n : Nat} (h : PreOk z) (hy : y.cps.toList = z.cps.toList.take 13) (hn : n < 99) : NameOk (y ++ num n) := by
  obtain ⟨c, r, e, hc⟩ := h.fst
  have e2 : (y ++ num n).cps.toList = c :: (r.take 12 ++ (num n).cps.toList) := by rw [cps_app, hy, e]; rfl
  have hl := num_len n hn
  have p : PreOk (y ++ num n) := preOk_mk e2 hc (fun d hd => by
    rcases List.mem_append.1 hd with hd | hd
    · exact h.run d (by rw [e]; simp [List.mem_of_mem_take hd])
    · have := num_fig n hn d hd; simp [isRun]; omega) (by rw [List.length_append, List.length_take, len_cps]; omega)
  refine ⟨p.lo, p.hi, p.fst, p.run, fun z' => ?_⟩
  cases hd : (num n).cps.toList with
  | nil => have := len_cps (z := num n); rw [hd] at this; simp at this; omega
  | cons d r2 =>
    have h1 := num_fig n hn d (by rw [hd]; simp)
    have := no_let _ z' d (by rw [e2, hd]; simp)
    simp [isLet] at this
    omega
end K47

/-! ## K47e5 -/
namespace K47
open PySem L2 DL
def firsts : Str := "qxbzMpfkaHgcwmtArnoCdeiBjlsuvyhDEFGIJKL"
theorem firsts_let : ∀ c ∈ firsts.cps.toList, isLet c = true := by decide +kernel
theorem firsts_len : firsts.length = 39 := by decide +kernel
def runs : Str := firsts ++ "0123456789_"
theorem runs_run : ∀ c ∈ runs.cps.toList, isRun c = true := by decide +kernel
theorem runs_len : runs.length = 50 := by decide +kernel
def lastc : Str := "ab9_M"
theorem lastc_run : ∀ c ∈ lastc.cps.toList, isRun c = true := by decide +kernel
def as15 : Str := "aaaaaaaaaaaaaaa"
theorem as_run : ∀ c ∈ as15.cps.toList, isRun c = true := by decide +kernel
theorem as_len : as15.length = 15 := by decide +kernel
theorem join_chars : ∀ (cs : List Nat), (Str.join ("" : Str) (cs.map ch)).cps.toList = cs
  | [] => by simp [Str.join, Str.empty]
  | [c] => by simp [Str.join]
  | c :: d :: cs => by
    have ih := join_chars (d :: cs)
    have e : Str.join ("" : Str) ((c :: d :: cs).map ch) = ch c ++ ("" : Str) ++ Str.join ("" : Str) ((d :: cs).map ch) := rfl
    rw [e, cps_app, cps_app, ih]
    have : ("" : Str).cps.toList = [] := by decide +kernel
    rw [this]; rfl
/-- the state within a turn of fresh -/
abbrev FrS (cnt near : D) (found : List Str) (k : Nat) (b : D) (t l : Slot) : Sl := [.own b, .sh cnt, .sh near, .own (.lst (found.map .str)), .sh (.str firsts), .sh (.int k), t, .un, l, .un, .un]
theorem fresh_tail {cnt near : D} {found : List Str} {k : Nat} {b : D} (hb : Bag b) : Ev (sAsg 6 (eStr1 joinD (eC (.str "")) (eComp (itOf rng1D (eCallI 0 d__law_of (aCons (eArgs lstD (aCons (eC (.int 0)) (aCons (eC (.int 0)) (aCons (eC (.int 1)) (aCons (eC (.int 0)) (aCons (eC (.int 2)) (aCons (eC (.int 0)) (aCons (eC (.int 5)) (aCons (eC (.int 15)) aNil))))))))) aNil))) (tgN 7) (ret true) (eCallI 0 d__law_of (aCons (eBin addD (eVar 4) (eC (.str "0123456789_"))) aNil)) [7]))) (FrS cnt near found k b .un .un)
    fun fl s1 => fl = .nx ∧ ∃ b T, s1 = FrS cnt near found k b (.sh (.str T)) .un ∧ Bag b ∧ T.length ≤ 15 ∧ ∀ c ∈ T.cps.toList, isRun c = true := by
  refine Ev.of ?_
  unfold eComp
  simp (dsimp := false) [h_eCompG, lstD, DL.sizeLine_eq]
  obtain ⟨d, y, e, hd, hy⟩ := of_list (ds := [.int 0, .int 0, .int 1, .int 0, .int 2, .int 0, .int 5, .int 15]) hb (by simp) (by simp)
  refine CiH.mk e ?_
  have hk : ∃ k : Nat, d = .int k ∧ k ≤ 15 := by
    simp only [List.mem_cons, List.not_mem_nil, or_false] at hd
    rcases hd with rfl | rfl | rfl | rfl | rfl | rfl | rfl | rfl <;> first | exact ⟨0, rfl, by decide⟩ | exact ⟨1, rfl, by decide⟩ | exact ⟨2, rfl, by decide⟩ | exact ⟨5, rfl, by decide⟩ | exact ⟨15, rfl, by decide⟩
  obtain ⟨m, rfl, hm⟩ := hk
  have hr : addD (.str firsts) (.str "0123456789_") = some (.str runs) := addD_str (by decide +kernel)
  simp (dsimp := false) [rng1D_nat (show m < 2 ^ 62 by omega)]
  refine EvH.of (ev_compI (fun i acc s => ∃ (b : D) (cs : List Nat), s = FrS cnt near found k b .un .un ∧ Bag b ∧ acc = cs.map (fun c => .str (ch c)) ∧ cs.length = i ∧ ∀ c ∈ cs, isRun c = true) (by omega) ?_ ?_ ?_)
  · exact ⟨y, [], rfl, hy, rfl, rfl, by simp⟩
  · rintro i acc s hi ⟨b, cs, rfl, hb, rfl, hl, hc⟩
    refine Ev.of ?_
    simp (dsimp := false)
    refine Ev.of ?_
    simp (dsimp := false) [hr]
    obtain ⟨_, y, e, ⟨c, hm, rfl⟩, hy⟩ := of_str (z := runs) hb (by rw [runs_len]; omega) (by rw [runs_len]; omega)
    refine CiH.mk e ?_
    simp (dsimp := false)
    exact ⟨hy, cs ++ [c], by simp, by simp [hl], fun x hx => by
      rcases List.mem_append.1 hx with hx | hx
      · exact hc x hx
      · rw [List.mem_singleton.1 hx]; exact runs_run c hm⟩
  · rintro acc s ⟨b, cs, rfl, hb, rfl, hl, hc⟩
    have hj : joinD (.str "") (.lst (cs.map fun c => .str (ch c))) = some (.str (Str.join "" (cs.map ch))) := by
      have e0 : (("" : Str)).length = 0 := by decide +kernel
      have e1 : ((cs.map ch).map (·.length)).sum ≤ cs.length := by
        clear hl hc
        induction cs with
        | nil => simp
        | cons c cs ih => simp only [List.map_cons, List.sum_cons, List.length_cons]; have : (ch c).length = 1 := rfl; omega
      have := joinD_lst (a := "") (l := cs.map ch) (by rw [e0]; omega)
      rw [List.map_map] at this
      exact this
    simp (dsimp := false) [hj]
    refine ⟨b, _, ⟨rfl, rfl⟩, hb, ?_, ?_⟩
    · rw [← len_cps, join_chars]; omega
    · intro x hx
      have hx2 : x ∈ (Str.join (Str.ofString "") (cs.map ch)).cps.toList := by simpa using hx
      rw [join_chars] at hx2
      exact hc x hx2
end K47

/-! ## K47e6 -/
namespace K47
open PySem L2 DL
/-- where a label stands -/
def LabS (P : Str → Prop) (cnt near : D) (found : List Str) (k : Nat) (T : Str) (s : Sl) : Prop := ∃ (b : D) (z : Str), s = FrS cnt near found k b (.sh (.str T)) (.sh (.str z)) ∧ Bag b ∧ P z
theorem fresh_2 {cnt near : D} {found : List Str} {k : Nat} {b : D} {T : Str} (hb : Bag b) (hT : T.length ≤ 15) (hr : ∀ c ∈ T.cps.toList, isRun c = true) : Ev (sAsg 8 (eBin addD (eCallI 0 d__law_of (aCons (eVar 4) aNil)) (eVar 6))) (FrS cnt near found k b (.sh (.str T)) .un)
    fun fl s1 => fl = .nx ∧ LabS PreOk cnt near found k T s1 := by
  refine Ev.of ?_
  simp (dsimp := false)
  obtain ⟨_, y, e, ⟨c, hm, rfl⟩, hy⟩ := of_str (z := firsts) hb (by rw [firsts_len]; omega) (by rw [firsts_len]; omega)
  refine CiH.mk e ?_
  have hl : (ch c).length = 1 := rfl
  have e2 : addD (.str (ch c)) (.str T) = some (.str (ch c ++ T)) := addD_str (by omega)
  simp (dsimp := false) [e2]
  exact ⟨y, ch c ++ T, rfl, hy, preOk_mk (c := c) (r := T.cps.toList) (by rw [cps_app]; rfl) (firsts_let c hm) hr (by rw [len_cps]; omega)⟩
theorem fresh_3 {cnt near : D} {found : List Str} {k : Nat} {b : D} {T z : Str} (hb : Bag b) (hz : PreOk z) (hf : ∀ z ∈ found, NameOk z) : Ev (sIf (bAnd (tstB truD (eOwn 3)) (tstB asBl (eBin eqD (eCallI 0 d__law_draw (aCons (eC (.int 6)) aNil)) (eC (.int 0))))) (sAsg 8 (eBin addD (eSl slD (eBin addD (eBinO ixD 3 (eUn negD (eC (.int 1)))) (eC (.str "aaaaaaaaaaaaaaa"))) oNone (oSome (eC (.int 15)))) (eCallI 0 d__law_of (aCons (eC (.str "ab9_M")) aNil)))) sNx) (FrS cnt near found k b (.sh (.str T)) (.sh (.str z)))
    fun fl s1 => fl = .nx ∧ LabS PreOk cnt near found k T s1 := by
  refine Ev.of ?_
  rcases List.eq_nil_or_concat found with rfl | ⟨pre, w, rfl⟩
  · simp (dsimp := false)
    exact ⟨b, z, rfl, hb, hz⟩
  · rw [List.concat_eq_append] at hf ⊢
    have h0 : ((pre ++ [w]).map D.str).isEmpty = false := by simp
    simp (dsimp := false) [h0, -List.map_append]
    obtain ⟨_, y, e, r, rfl, hr, hy⟩ := draw_ok (lim := 6) hb (by omega) (by omega)
    refine CiH.mk e ?_
    simp (dsimp := false) [-List.map_append]
    refine BrH.both (fun _ => ?_) fun _ => ?_
    · have hw := hf w (by simp)
      have h16 := hw.hi
      have e1 : ixD (.lst ((pre ++ [w]).map .str)) (.int (-1)) = some (.str w) := by rw [ixD_lst, List.map_append]; exact atI_last
      have e2 : addD (.str w) (.str "aaaaaaaaaaaaaaa") = some (.str (w ++ as15)) := addD_str (by have := as_len; unfold as15 at this; omega)
      have hl2 : (w ++ as15).length ≤ 31 := by rw [len_app, as_len]; omega
      have e3 : slD (.str (w ++ as15)) none (some 15) = some (.str (cutS (w ++ as15) none (some ((15 : Nat) : Int)))) := slD_str (by omega)
      have c3 : (cutS (w ++ as15) none (some ((15 : Nat) : Int))).cps.toList = (w ++ as15).cps.toList.take 15 := cutS_to
      generalize cutS (w ++ as15) none (some ((15 : Nat) : Int)) = u at e3 c3
      simp (dsimp := false) [e1, e2, e3, -List.map_append]
      obtain ⟨_, y2, e4, ⟨c, hm, rfl⟩, hy2⟩ := of_str (z := lastc) hy (by decide +kernel) (by decide +kernel)
      refine CiH.mk e4 ?_
      have hu : u.length ≤ 15 := by rw [← len_cps, c3, List.length_take]; omega
      have hl : (ch c).length = 1 := rfl
      have e5 : addD (.str u) (.str (ch c)) = some (.str (u ++ ch c)) := addD_str (by omega)
      simp (dsimp := false) [e5, -List.map_append]
      obtain ⟨c0, r0, e6, hc0⟩ := hw.fst
      refine ⟨y2, u ++ ch c, by simp, hy2, preOk_mk (c := c0) (r := (r0 ++ as15.cps.toList).take 14 ++ [c]) ?_ hc0 ?_ ?_⟩
      · rw [cps_app, c3, cps_app, e6]; rfl
      · intro d hd
        rcases List.mem_append.1 hd with hd | hd
        · rcases List.mem_append.1 (List.mem_of_mem_take hd) with hd | hd
          · exact hw.run d (by rw [e6]; simp [hd])
          · exact as_run d hd
        · rw [List.mem_singleton.1 hd]; exact lastc_run c hm
      · rw [List.length_append, List.length_take]; simp; omega
    · simp (dsimp := false) [-List.map_append]
      exact ⟨y, z, by simp, hy, hz⟩
theorem fresh_4 {cnt : D} {near found : List Str} {k : Nat} {b : D} {T z : Str} (hb : Bag b) (hz : PreOk z) (hn : ∀ z ∈ near, NameOk z) (hl : near.length < 2 ^ 60) : Ev (sIf (bAnd (tstB truD (eVar 2)) (tstB asBl (eBin eqD (eCallI 0 d__law_draw (aCons (eC (.int 4)) aNil)) (eC (.int 0))))) (sAsg 8 (eCallI 0 d__law_of (aCons (eVar 2) aNil))) sNx) (FrS cnt (.lst (near.map .str)) found k b (.sh (.str T)) (.sh (.str z)))
    fun fl s1 => fl = .nx ∧ LabS PreOk cnt (.lst (near.map .str)) found k T s1 := by
  refine Ev.of ?_
  cases near with
  | nil =>
    simp (dsimp := false)
    exact ⟨b, z, rfl, hb, hz⟩
  | cons w near =>
    simp (dsimp := false)
    obtain ⟨_, y, e, r, rfl, hr, hy⟩ := draw_ok (lim := 4) hb (by omega) (by omega)
    refine CiH.mk e ?_
    simp (dsimp := false)
    refine BrH.both (fun _ => ?_) fun _ => ?_
    · simp (dsimp := false)
      obtain ⟨d, y2, e4, hd, hy2⟩ := of_list (ds := (w :: near).map .str) hy (by simp) (by simpa using hl)
      refine CiH.mk e4 ?_
      obtain ⟨v, hv, rfl⟩ := List.mem_map.1 hd
      simp (dsimp := false)
      exact ⟨y2, v, rfl, hy2, (hn v hv).pre⟩
    · simp (dsimp := false)
      exact ⟨y, z, rfl, hy, hz⟩
theorem in_no {z : Str} (h : PyData.strOk z = true) : inD (.str z) (.lst (l_NO_NAMES.map .str)) = some (.bl (decide (z ∈ l_NO_NAMES))) := by
  unfold inD
  rw [inT_lst (fine_str h) (fun d hd => by
    obtain ⟨w, hw, rfl⟩ := List.mem_map.1 hd
    exact fine_str (strOk_of fun c hc => run_small (run_let (no_let w hw c hc)))), inTup_map (enc := D.str) (fun a _ => eqv_str)]
  rfl
theorem fresh_5 {cnt near : D} {found : List Str} {k : Nat} {b : D} {T z : Str} (hb : Bag b) (hz : PreOk z) : Ev (sAsg 8 (eIf (tstB asBl (eBin inD (eVar 8) (eCall d__law_closed [] aNil))) (eBin addD (eVar 8) (eC (.str "_"))) (eVar 8))) (FrS cnt near found k b (.sh (.str T)) (.sh (.str z)))
    fun fl s1 => fl = .nx ∧ LabS NameOk cnt near found k T s1 := by
  refine Ev.of ?_
  simp (dsimp := false) [closed_ok, in_no hz.ok]
  refine BrH.both (fun h => ?_) fun h => ?_
  · have hm : z ∈ l_NO_NAMES := of_decide_eq_true h
    have e : addD (.str z) (.str "_") = some (.str (z ++ "_")) := addD_str (by
      have h1 := hz.hi
      have h2 : ("_" : Str).length = 1 := by decide +kernel
      omega)
    simp (dsimp := false) [e]
    exact ⟨b, _, rfl, hb, under_ok hz hm⟩
  · have hm : z ∉ l_NO_NAMES := of_decide_eq_false h
    simp (dsimp := false)
    exact ⟨b, z, rfl, hb, hz.lo, hz.hi, hz.fst, hz.run, hm⟩
end K47

/-! ## K47e7 -/
namespace K47
open PySem L2 DL
def candK (y : Str) (i : Nat) : Str := y ++ num (2 + i)
def cands (z y : Str) : List Str := z :: (List.range 97).map (candK y)
theorem str_app_inj {a b c : Str} (h : a ++ b = a ++ c) : b = c := by
  have := congrArg (fun z : Str => z.cps.toList) h
  simp only [cps_app, List.append_cancel_left_eq] at this
  exact Str.ext' (Array.toList_inj.1 this)
theorem cands_free {z y : Str} {found : List Str} (hf : found.length ≤ 90) : ∃ c r, (cands z y).filter (fun x => !decide (x ∈ found)) = c :: r := by
  cases h : (cands z y).filter (fun x => !decide (x ∈ found)) with
  | cons c r => exact ⟨c, r, rfl⟩
  | nil =>
    exfalso
    rw [List.filter_eq_nil_iff] at h
    have hn : ((List.range 97).map (candK y)).Nodup := by
      unfold List.Nodup
      rw [List.pairwise_map]
      refine List.Pairwise.imp_of_mem ?_ (List.nodup_range (n := 97))
      intro i j hi hj hne e
      have h1 := num_inj (2 + i) (by simp at hi; omega) (2 + j) (by simp at hj; omega) (str_app_inj e)
      omega
    have := nodup_le hn (m := found) fun x hx => by
      have := h x (by unfold cands; exact List.mem_cons_of_mem _ hx)
      simpa using this
    simp at this
    omega
theorem fresh_6 {cnt near : D} {found : List Str} {k : Nat} {b : D} {T z : Str} (hb : Bag b) (hz : NameOk z) (hf : ∀ z ∈ found, NameOk z) (hl : found.length ≤ 90) : Ev (sDrop (eMeth1 isL 3 appD (eBin ixD (eComp (itOf seqItems (eBin addD (eArgs lstD (aCons (eVar 8) aNil)) (eComp (it2 rng2D (eC (.int 2)) (eC (.int 99))) (tgN 9) (ret true) (eBin addD (eSl slD (eVar 8) oNone (oSome (eC (.int 13)))) (eUn strD (eVar 9))) [9]))) (tgN 10) (tstB asBl (eBin notInD (eVar 10) (eOwn 3))) (eVar 10) [10]) (eC (.int 0))))) (FrS cnt near found k b (.sh (.str T)) (.sh (.str z)))
    fun fl s1 => fl = .nx ∧ ∃ c, s1 = FrS cnt near (found ++ [c]) k b (.sh (.str T)) (.sh (.str z)) ∧ NameOk c ∧ c ∉ found := by
  refine Ev.of ?_
  have hi := hz.hi
  have e3 : slD (.str z) none (some 13) = some (.str (cutS z none (some ((13 : Nat) : Int)))) := slD_str (by omega)
  have c3 : (cutS z none (some ((13 : Nat) : Int))).cps.toList = z.cps.toList.take 13 := cutS_to
  generalize cutS z none (some ((13 : Nat) : Int)) = u at e3 c3
  have hu : u.length ≤ 13 := by rw [← len_cps, c3, List.length_take]; omega
  have hc : ∀ x ∈ cands z u, NameOk x := by
    intro x hx
    rcases List.mem_cons.1 hx with rfl | hx
    · exact hz
    · obtain ⟨i, hi, rfl⟩ := List.mem_map.1 hx
      exact cand_ok hz.pre c3 (by simp at hi; omega)
  have hr : rng2D (.int 2) (.int 99) = some (rngD 2 97) := rng2D_int (by omega) (by omega) (by omega) (by omega)
  simp (dsimp := false)
  refine h_comp (enc := D.str) (cands z u) (fun x => !decide (x ∈ found)) D.str ?_ (by simp) (by simp [cands]) ?_ ?_
  · simp (dsimp := false)
    refine h_map (enc := fun (i : Nat) => D.int (2 + i)) (List.range 97) (fun i => .str (candK u i)) ?_ (by simp) (by simp) ?_ ?_
    · simp (dsimp := false) [hr, rngD]
    · intro i hi
      simp at hi
      have e4 : strD (.int (2 + (i : Int))) = some (.str (num (2 + i))) := by
        have : (2 + (i : Int)).natAbs.log2 < 1920 := by
          have := log2_small (n := 2 + i) (by omega)
          rw [show (2 + (i : Int)).natAbs = 2 + i by omega]
          by_cases h0 : 2 + i = 0
          · omega
          · exact Nat.lt_of_lt_of_le ((Nat.log2_lt h0).2 (show 2 + i < 2 ^ 64 by omega)) (by decide)
        have e5 : strD (.int (2 + (i : Int))) = some (.str (toString (2 + (i : Int)))) := if_pos this
        rw [e5]
        unfold num
        rw [Int.natCast_add]; rfl
      have e5 : addD (.str u) (.str (num (2 + i))) = some (.str (candK u i)) := addD_str (by have := (num_len (2 + i) (by omega)).2; omega)
      simp (dsimp := false) [e3, e4, e5]
    · have e6 : addD (.lst [.str z]) (.lst ((List.range 97).map fun i => .str (candK u i))) = some (.lst ([.str z] ++ (List.range 97).map fun i => .str (candK u i))) := addD_lst (by simp)
      simp (dsimp := false) only [e6, smH_some, seqItems_lst]
      exact ⟨by simp [cands, Function.comp_def], trivial⟩
  · intro x hx
    have g : notInD (.str x) (.lst (found.map .str)) = some (.bl (!decide (x ∈ found))) := by
      unfold notInD
      rw [inT_lst (hc x hx).fine (fun d hd => by
        obtain ⟨w, hw, rfl⟩ := List.mem_map.1 hd
        exact (hf w hw).fine), inTup_map (enc := D.str) (fun a _ => eqv_str)]
      rfl
    simp (dsimp := false) [g]
  · obtain ⟨c, r, e⟩ := cands_free (z := z) (y := u) (found := found) hl
    have hm : c ∈ (cands z u).filter (fun x => !decide (x ∈ found)) := by rw [e]; simp
    rw [List.mem_filter] at hm
    rw [e]
    have e7 : ixD (.lst ((c :: r).map .str)) (.int 0) = some (.str c) := ixD_l (n := 0) rfl
    simp (dsimp := false) [e7, appD_lst (ds := found.map D.str) (by simp; omega), -List.map_cons]
    exact ⟨c, by simp, hc c hm.1, by simpa using hm.2⟩
theorem fresh_ok {x : D} {n : Nat} {near : List Str} (hx : Bag x) (hn : ∀ z ∈ near, NameOk z) (hl : near.length < 2 ^ 60) (hc : n ≤ 60) : ∃ d y, d__law_fresh x [.int n, .lst (near.map .str)] = .ok d y ∧ ∃ zs : List Str, d = .lst (zs.map .str) ∧ zs.length = n ∧ zs.Nodup ∧ (∀ z ∈ zs, NameOk z) ∧ Bag y := by
  refine fnI_of rfl ?_
  unfold b__law_fresh
  refine Ev.of ?_
  simp (dsimp := false) [rng1D_nat (show n < 2 ^ 62 by omega)]
  refine EvH.of (ev_forR (fun i s => ∃ (b : D) (zs : List Str), s = [.own b, .sh (.int n), .sh (.lst (near.map .str)), .own (.lst (zs.map .str)), .sh (.str firsts), .un, .un, .un, .un, .un, .un] ∧ Bag b ∧ zs.length = i ∧ i ≤ n ∧ zs.Nodup ∧ ∀ z ∈ zs, NameOk z) ?_ ?_ ?_)
  · exact ⟨x, [], rfl, hx, rfl, Nat.zero_le _, List.nodup_nil, by simp⟩
  · rintro i s hi ⟨b, zs, rfl, hb, hl2, _, hnd, hz⟩
    refine ev_seq (fun s => s = FrS (.int n) (.lst (near.map .str)) zs i b .un .un) (Ev.of ?_) ?_
    · simp (dsimp := false)
    rintro _ rfl
    refine ev_seq _ (fresh_tail hb) ?_
    rintro _ ⟨b1, T, rfl, hb1, hT, hTr⟩
    refine ev_seq _ (fresh_2 hb1 hT hTr) ?_
    rintro _ ⟨b2, z2, rfl, hb2, hz2⟩
    refine ev_seq _ (fresh_3 hb2 hz2 hz) ?_
    rintro _ ⟨b3, z3, rfl, hb3, hz3⟩
    refine ev_seq _ (fresh_4 hb3 hz3 hn hl) ?_
    rintro _ ⟨b4, z4, rfl, hb4, hz4⟩
    refine ev_seq _ (fresh_5 hb4 hz4) ?_
    rintro _ ⟨b5, z5, rfl, hb5, hz5⟩
    refine (fresh_6 hb5 hz5 hz (by omega)).mono ?_
    rintro fl s ⟨rfl, c, rfl, hc, hcn⟩
    refine ⟨b5, zs ++ [c], by simp, hb5, by simp [hl2], hi, ?_, ?_⟩
    · rw [List.nodup_append]
      exact ⟨hnd, by simp, fun a ha b hb e => by rw [List.mem_singleton.1 hb] at e; exact hcn (e ▸ ha)⟩
    · intro z hz'
      rcases List.mem_append.1 hz' with h | h
      · exact hz z h
      · rw [List.mem_singleton.1 h]; exact hc
  · rintro s ⟨b, zs, rfl, hb, hl2, _, hnd, hz⟩
    simp (dsimp := false)
    exact ⟨zs, rfl, hl2, hnd, hz, hb⟩
end K47

/-! ## K47f1 -/
namespace K47
open PySem L2 DL
/-! ### ties -/
abbrev dN (n : Nat) : D := .int n
abbrev dT (p : Nat × Nat) : D := .tup [.int p.1, .int p.2]
abbrev dNs (l : List Nat) : D := .lst (l.map dN)
abbrev dTs (l : List (Nat × Nat)) : D := .lst (l.map dT)
abbrev dTup (l : List Nat) : D := .tup (l.map dN)
theorem rngD0 {n : Nat} : rngD 0 n = (List.range n).map dN := by unfold rngD; simp
theorem fine_dT {k : Nat} {p : Nat × Nat} : Fine (k + 1) (dT p) := fine_tup (by simp; exact ⟨fine_int, fine_int⟩)
@[simp] theorem beq_cast {a b : Nat} : ((a : Int) == (b : Int)) = decide (a = b) := by
  by_cases h : a = b
  · simp [h]
  · have : (a : Int) ≠ b := by omega
    simp [h, this]
theorem eqv_dN {a b : Nat} : PyData.eqv (dN a).py (dN b).py = decide (a = b) := by rw [eqv_int]; exact decide_eq_decide.2 Int.ofNat_inj
theorem eqv_dT {p q : Nat × Nat} : PyData.eqv (dT p).py (dT q).py = decide (p = q) := by
  obtain ⟨a, b⟩ := p
  obtain ⟨c, d⟩ := q
  simp only [D.py, pys, PyData.eqv, PyData.eqvAll, Bool.and_true, Prod.mk.injEq, Bool.decide_and]
  by_cases h1 : a = c <;> by_cases h2 : b = d <;> simp [h1, h2] <;> omega
theorem in_ties {ts : List (Nat × Nat)} {s t : Nat} : inD (.tup [.int s, .int t]) (dTs ts) = some (.bl (decide ((s, t) ∈ ts))) := by
  unfold inD
  rw [inT_lst (x := dT (s, t)) fine_dT (fun d hd => by
    obtain ⟨p, hp, rfl⟩ := List.mem_map.1 hd
    exact fine_dT), inTup_map (enc := dT) (x := (s, t)) (fun a _ => eqv_dT)]
  simp
theorem notin_ties {ts : List (Nat × Nat)} {s t : Nat} : notInD (.tup [.int s, .int t]) (dTs ts) = some (.bl (!decide ((s, t) ∈ ts))) := by
  unfold notInD
  rw [inT_lst (x := dT (s, t)) fine_dT (fun d hd => by
    obtain ⟨p, hp, rfl⟩ := List.mem_map.1 hd
    exact fine_dT), inTup_map (enc := dT) (x := (s, t)) (fun a _ => eqv_dT)]
  simp
theorem in_nats {l : List Nat} {r : Nat} : inD (.int r) (dNs l) = some (.bl (decide (r ∈ l))) := by
  unfold inD
  rw [inT_lst (x := dN r) fine_int (fun d hd => by
    obtain ⟨p, hp, rfl⟩ := List.mem_map.1 hd
    exact fine_int), inTup_map (enc := dN) (x := r) (fun a _ => eqv_dN)]
  rfl
theorem notin_tup {l : List Nat} {r : Nat} : notInD (.int r) (dTup l) = some (.bl (!decide (r ∈ l))) := by
  unfold notInD
  rw [inT_tup (x := dN r) rfl (fun d hd => by
    obtain ⟨p, hp, rfl⟩ := List.mem_map.1 hd
    rfl), inTup_map (enc := dN) (x := r) (fun a _ => eqv_dN)]
  rfl
theorem pls_map {β : Type} {enc : β → D} {l : List β} (h : ∀ b ∈ l, (enc b).pl = true) : pls (l.map enc) = true := by
  induction l with
  | nil => rfl
  | cons b l ih => simp [pls, h b (by simp), ih fun c hc => h c (by simp [hc])]
theorem sortOk_map {β : Type} {enc : β → D} {l : List β} (h1 : ∀ b ∈ l, (enc b).pl = true) (h2 : ∀ a ∈ l, ∀ b ∈ l, PySem.W.alike (enc a).py (enc b).py = true) (h3 : (∀ b ∈ l, isTupNE (enc b) = true) ∨ ∀ b ∈ l, notNT (enc b) = true) (h4 : ∀ b ∈ l, (enc b).py.depth ≤ 50) : sortOk (l.map enc) = true := by
  unfold sortOk
  simp only [Bool.and_eq_true, Bool.or_eq_true, List.all_map, List.all_eq_true, Function.comp, decide_eq_true_eq]
  exact ⟨⟨⟨pls_map h1, h2⟩, h3⟩, h4⟩
theorem sort_nats {l : List Nat} : ∃ l', sortD (dNs l) = some (dNs l') ∧ l'.Perm l := by
  obtain ⟨l', e, p⟩ := sort_map (enc := dN) (l := l)
  exact ⟨l', by rw [sortD_eq (sortOk_map (fun _ _ => rfl) (fun _ _ _ _ => rfl) (.inr fun _ _ => rfl) (fun _ _ => Nat.zero_le _)), e], p⟩
theorem alike_ints : ∀ (a b : List Nat), PySem.W.alikeAll (pys (a.map dN)) (pys (b.map dN)) = true
  | [], _ => by simp [pys, PySem.W.alikeAll]
  | _ :: _, [] => by simp [pys, PySem.W.alikeAll]
  | x :: a, y :: b => by simp [pys, PySem.W.alikeAll, alike_ints a b, D.py, PySem.W.alike]
theorem fine_dTup {k : Nat} {l : List Nat} : Fine (k + 1) (dTup l) := fine_tup (by
  intro d hd
  obtain ⟨p, hp, rfl⟩ := List.mem_map.1 hd
  exact fine_int)
theorem sort_ties {l : List (Nat × Nat)} : ∃ l', sortD (dTs l) = some (dTs l') ∧ l'.Perm l := by
  obtain ⟨l', e, p⟩ := sort_map (enc := dT) (l := l)
  exact ⟨l', by rw [sortD_eq (sortOk_map (enc := dT) (fun _ _ => rfl) (fun a _ b _ => alike_ints [a.1, a.2] [b.1, b.2]) (.inl fun _ _ => rfl) (fun _ _ => Nat.le_trans (fine_dT (k := 0)).dep (by decide))), e], p⟩
theorem sort_tups {l : List (List Nat)} (h : ∀ w ∈ l, w ≠ []) : ∃ l' : List (List Nat), sortD (.lst (l.map dTup)) = some (.lst (l'.map dTup)) ∧ l'.Perm l := by
  obtain ⟨l', e, p⟩ := sort_map (enc := dTup) (l := l)
  exact ⟨l', by rw [sortD_eq (sortOk_map (enc := dTup) (fun b _ => (fine_dTup (k := 0)).pl) (fun a _ b _ => alike_ints a b) (.inl fun b hb => by cases b with | nil => exact absurd rfl (h _ hb) | cons x r => rfl) (fun b _ => Nat.le_trans (fine_dTup (k := 0)).dep (by decide))), e], p⟩
def tell (ts : List (Nat × Nat)) (r : Nat) : List Nat := (ts.filter fun p => decide (p.2 = r)).map (·.1)
theorem mem_tell {ts : List (Nat × Nat)} {r s : Nat} : s ∈ tell ts r ↔ (s, r) ∈ ts := by
  unfold tell
  simp only [List.mem_map, List.mem_filter, decide_eq_true_eq]
  exact ⟨fun ⟨p, ⟨h, e⟩, e2⟩ => by subst e e2; exact h, fun h => ⟨(s, r), ⟨h, rfl⟩, rfl⟩⟩
theorem tellers_ok {ts : List (Nat × Nat)} {r : Nat} (hl : ts.length ≤ 16777216) : d__law_tellers [dTs ts, .int r] = .ok (dNs (tell ts r)) := by
  refine fnP_eq rfl ?_
  unfold b__law_tellers
  refine Ev.of ?_
  simp (dsimp := false)
  refine h_comp (enc := dT) ts (fun p => decide (p.2 = r)) (fun p => dN p.1) ?_ (by simp) hl ?_ ?_
  · simp (dsimp := false)
  · rintro ⟨a, b⟩ hx
    simp (dsimp := false)
  · simp (dsimp := false) [tell, Function.comp_def]
theorem hearers_ok {ts : List (Nat × Nat)} {r : Nat} (hl : ts.length ≤ 16777216) : ∃ d, d__law_hearers [dTs ts, .int r] = .ok d ∧ ∃ l, d = dNs l ∧ l.Perm ((ts.filter fun p => decide (p.1 = r)).map (·.2)) := by
  refine fnP_of rfl ?_
  unfold b__law_hearers
  refine Ev.of ?_
  simp (dsimp := false)
  refine h_comp (enc := dT) ts (fun p => decide (p.1 = r)) (fun p => dN p.2) ?_ (by simp) hl ?_ ?_
  · simp (dsimp := false)
  · rintro ⟨a, b⟩ hx
    simp (dsimp := false)
  · obtain ⟨l, e, p⟩ := sort_nats (l := (ts.filter fun p => decide (p.1 = r)).map (·.2))
    unfold dNs at e
    rw [List.map_map] at e
    simp only [Function.comp_def] at e
    simp (dsimp := false) [e]
    exact ⟨l, rfl, p⟩
theorem sibs_ok {ts : List (Nat × Nat)} {a b : Nat} (hl : ts.length ≤ 16777216) : ∃ d, d__law_sibs [dTs ts, .int a, .int b] = .ok d ∧ ∃ l : List Nat, d = dNs l ∧ (l = [] ↔ ∀ s, ¬ ((s, a) ∈ ts ∧ (s, b) ∈ ts)) := by
  refine fnP_of rfl ?_
  unfold b__law_sibs
  refine Ev.of ?_
  simp (dsimp := false)
  refine h_comp (enc := dT) ts (fun p => decide (p.2 = a) && decide ((p.1, b) ∈ ts)) (fun p => dN p.1) ?_ (by simp) hl ?_ ?_
  · simp (dsimp := false)
  · rintro ⟨c, d⟩ hx
    simp (dsimp := false)
    refine BrH.both (fun e => ?_) fun e => ?_
    · have e' : d = a := by simpa using e
      simp (dsimp := false) [in_ties, e']
    · have e' : ¬ d = a := by simpa using e
      simp (dsimp := false) [e']
  · obtain ⟨l, e, p⟩ := sort_nats (l := (ts.filter fun p => decide (p.2 = a) && decide ((p.1, b) ∈ ts)).map (·.1))
    unfold dNs at e
    rw [List.map_map] at e
    simp only [Function.comp_def] at e
    simp (dsimp := false) [e]
    refine ⟨l, rfl, ?_⟩
    constructor
    · intro hl0 s h1 h2
      rw [hl0] at p
      have := p.symm.eq_nil
      have hm : s ∈ (ts.filter fun p => decide (p.2 = a) && decide ((p.1, b) ∈ ts)).map (·.1) := List.mem_map.2 ⟨(s, a), List.mem_filter.2 ⟨h1, by simp [h2]⟩, rfl⟩
      rw [this] at hm
      cases hm
    · intro h
      cases l with
      | nil => rfl
      | cons s l =>
        have hm := p.subset (List.mem_cons_self (a := s) (l := l))
        obtain ⟨⟨s', a'⟩, hp, rfl⟩ := List.mem_map.1 hm
        simp only [List.mem_filter, Bool.and_eq_true, decide_eq_true_eq] at hp
        obtain ⟨h1, rfl, h2⟩ := hp
        exact absurd h2 (h s' h1)
def NoSib (ts : List (Nat × Nat)) (a b : Nat) : Prop := ∀ s, ¬ ((s, a) ∈ ts ∧ (s, b) ∈ ts)
def Bare (ts : List (Nat × Nat)) (ring : List Nat) : Prop := ∀ (j k a b : Nat), j < k → ring[j]? = some a → ring[k]? = some b → NoSib ts a b
theorem is_bare_ok {ts : List (Nat × Nat)} {ring : List Nat} {R : D} (hl : ts.length ≤ 16777216) (hr : ring.length < 2 ^ 60) (h1 : lenD R = some (.int ring.length)) (h2 : ∀ (k : Nat) a, ring[k]? = some a → ixD R (.int k) = some (.int a)) :
    ∃ d, d__law_is_bare [dTs ts, R] = .ok d ∧ ∃ b, d = .bl b ∧ (b = true ↔ Bare ts ring) := by
  refine fnP_of rfl ?_
  unfold b__law_is_bare
  refine Ev.of ?_
  simp (dsimp := false) [h1, rng1D_nat (show ring.length < 2 ^ 62 by omega)]
  refine EvH.of (ev_forR (fun i s => s = [.sh (dTs ts), .sh R, .un, .un] ∧ ∀ j k a b, j < k → k < i → ring[j]? = some a → ring[k]? = some b → NoSib ts a b) ?_ ?_ ?_)
  · exact ⟨rfl, fun j k a b _ h => by omega⟩
  · rintro k s hk ⟨rfl, hI⟩
    refine ev_seq (fun s => s = [.sh (dTs ts), .sh R, .sh (.int k), .un]) (Ev.of ?_) ?_
    · simp (dsimp := false)
    rintro _ rfl
    refine Ev.of ?_
    simp (dsimp := false) [rng1D_nat (show k < 2 ^ 62 by omega)]
    obtain ⟨b, hb⟩ : ∃ b, ring[k]? = some b := ⟨_, List.getElem?_eq_getElem hk⟩
    refine EvH.of (ev_forR (fun j s => s = [.sh (dTs ts), .sh R, .sh (.int k), .un] ∧ ∀ j' a, j' < j → ring[j']? = some a → NoSib ts a b) ?_ ?_ ?_)
    · exact ⟨rfl, fun j' a h => by omega⟩
    · rintro j s hj ⟨rfl, hJ⟩
      obtain ⟨a, ha⟩ : ∃ a, ring[j]? = some a := ⟨_, List.getElem?_eq_getElem (by omega)⟩
      refine Ev.of ?_
      simp (dsimp := false) [h2 j a ha, h2 k b hb]
      obtain ⟨_, e, l, rfl, hl2⟩ := sibs_ok (ts := ts) (a := a) (b := b) hl
      refine ClH.mk e ?_
      cases l with
      | nil =>
        simp (dsimp := false)
        intro j' a' h1 h2
        by_cases h : j' = j
        · subst h; rw [ha] at h2; cases h2; exact hl2.1 rfl
        · exact hJ j' a' (by omega) h2
      | cons s l =>
        simp (dsimp := false)
        intro hB
        have := hl2.2 ((show ∀ (j k a b : Nat), j < k → ring[j]? = some a → ring[k]? = some b → NoSib ts a b from hB) j k a b hj ha hb)
        cases this
    · rintro s ⟨rfl, hJ⟩
      simp (dsimp := false)
      intro j k' a b' h1 h2 h3 h4
      by_cases h : k' = k
      · subst h; rw [hb] at h4; cases h4; exact hJ j a h1 h3
      · exact hI j k' a b' h1 (by omega) h3 h4
  · rintro s ⟨rfl, hI⟩
    simp (dsimp := false)
    show ∀ (j k a b : Nat), j < k → ring[j]? = some a → ring[k]? = some b → NoSib ts a b
    intro j k a b h1 h3 h4
    exact hI j k a b h1 (List.getElem?_eq_some_iff.1 h4).1 h3 h4
end K47

/-! ## K47f2 -/
namespace K47
open PySem L2 DL
/-! ### drawn ties -/
theorem of_nats {x : D} {ns : List Nat} (hx : Bag x) (h : ns ≠ []) (hl : ns.length < 2 ^ 60) : ∃ d y, d__law_of x [dNs ns] = .ok d y ∧ (∃ n ∈ ns, d = dN n) ∧ Bag y := by
  obtain ⟨d, y, e, hd, hy⟩ := of_list (ds := ns.map dN) hx (by simpa using h) (by simpa using hl)
  obtain ⟨n, hn, rfl⟩ := List.mem_map.1 hd
  exact ⟨_, y, e, ⟨n, hn, rfl⟩, hy⟩
theorem size_ok {x : D} (hx : Bag x) : ∃ d y, d__law_size x [.int 6] = .ok d y ∧ ∃ n : Nat, d = dN n ∧ n ≤ 6 ∧ Bag y := by
  refine fnI_of rfl ?_
  unfold b__law_size
  refine Ev.of ?_
  simp (dsimp := false) [lstD, DL.sizeLine_eq]
  obtain ⟨_, y, e, ⟨n, hn, rfl⟩, hy⟩ := of_nats (ns := [3, 3, 4, 2, 3, 5, 4, 1, 3, 0, 4, 6]) hx (by simp) (by simp)
  refine CiH.mk e ?_
  have h6 : n ≤ 6 := by
    have : ∀ m ∈ [3, 3, 4, 2, 3, 5, 4, 1, 3, 0, 4, 6], m ≤ 6 := by decide
    exact this n hn
  simp (dsimp := false)
  refine ⟨n, ?_, h6, hy⟩
  split
  · rfl
  · omega
/-- a mixed row of the first numbers -/
theorem mixed_range {x : D} {n : Nat} (hx : Bag x) (hn : n < 2 ^ 20) : ∃ d y, d__law_mixed x [.lst (rngD 0 n)] = .ok d y ∧ ∃ l : List Nat, d = dNs l ∧ l.Perm (List.range n) ∧ Bag y := by
  rw [rngD0]
  exact mixed_ok (enc := dN) (xs := List.range n) hx (by simpa using hn)
theorem perm_range {l : List Nat} {n : Nat} (h : l.Perm (List.range n)) : l.length = n ∧ l.Nodup ∧ ∀ a ∈ l, a < n := by
  refine ⟨by simpa using h.length_eq, h.nodup_iff.2 List.nodup_range, fun a ha => ?_⟩
  simpa using h.subset ha
structure TiesOk (n : Nat) (ts : List (Nat × Nat)) : Prop where
  nd : ts.Nodup
  lt : ∀ p ∈ ts, p.1 < n ∧ p.2 < n
theorem TiesOk.perm {n : Nat} {ts us : List (Nat × Nat)} (h : TiesOk n ts) (p : us.Perm ts) : TiesOk n us := ⟨p.nodup_iff.2 h.nd, fun q hq => h.lt q (p.subset hq)⟩
theorem TiesOk.snoc {n : Nat} {ts : List (Nat × Nat)} {p : Nat × Nat} (h : TiesOk n ts) (hp : p ∉ ts) (h1 : p.1 < n) (h2 : p.2 < n) : TiesOk n (ts ++ [p]) := by
  refine ⟨?_, fun q hq => ?_⟩
  · rw [List.nodup_append]
    exact ⟨h.nd, by simp, fun a ha b hb e => by rw [List.mem_singleton.1 hb] at e; exact hp (e ▸ ha)⟩
  · rcases List.mem_append.1 hq with hq | hq
    · exact h.lt q hq
    · rw [List.mem_singleton.1 hq]; exact ⟨h1, h2⟩
/-- all pairs of numbers below n -/
def pairs (n : Nat) : List (Nat × Nat) := (List.range n).flatMap fun a => (List.range n).map fun b => (a, b)
theorem mem_pairs {n : Nat} {p : Nat × Nat} : p ∈ pairs n ↔ p.1 < n ∧ p.2 < n := by
  unfold pairs
  obtain ⟨a, b⟩ := p
  simp only [List.mem_flatMap, List.mem_map, List.mem_range, Prod.mk.injEq]
  exact ⟨fun ⟨x, hx, y, hy, h1, h2⟩ => by subst h1 h2; exact ⟨hx, hy⟩, fun ⟨h1, h2⟩ => ⟨a, h1, b, h2, rfl, rfl⟩⟩
theorem len_pairs {n : Nat} : (pairs n).length = n * n := by
  unfold pairs
  rw [List.length_flatMap]
  simp only [List.length_map, List.length_range]
  rw [List.map_const', List.length_range, List.sum_replicate_nat]
theorem TiesOk.len {n : Nat} {ts : List (Nat × Nat)} (h : TiesOk n ts) : ts.length ≤ n * n := by
  rw [← len_pairs]
  exact nodup_le h.nd fun p hp => mem_pairs.2 (h.lt p hp)
theorem ev_if_any {c : M Bool} {a b : M Fl} {s : Sl} {Q : Fl → Sl → Prop} (hc : Ev c s fun _ s1 => s1 = s) (ha : Ev a s Q) (hb : Ev b s Q) : Ev (sIf c a b) s Q := by
  rw [ev_sIf]
  refine hc.mono ?_
  rintro k s1 rfl
  cases k with
  | true => simpa using ha
  | false => simpa using hb
def Before (spots : List Nat) (i j : Nat) (ts : List (Nat × Nat)) : Prop := ∀ p ∈ ts, ∃ s t : Nat, (s < i ∨ s = i ∧ t < j) ∧ spots[s]? = some p.1 ∧ spots[t]? = some p.2
theorem Before.mono {spots : List Nat} {i j i' j' : Nat} {ts : List (Nat × Nat)} (h : Before spots i j ts) (l : ∀ s t, (s < i ∨ s = i ∧ t < j) → t < spots.length → (s < i' ∨ s = i' ∧ t < j')) : Before spots i' j' ts := fun p hp => by
  obtain ⟨s, t, h1, h2, h3⟩ := h p hp
  exact ⟨s, t, l s t h1 (List.getElem?_eq_some_iff.1 h3).1, h2, h3⟩
theorem ties_ok {x : D} {n : Nat} (hx : Bag x) (hn : n ≤ 8) : ∃ d y, d__law_ties x [.int n] = .ok d y ∧ ∃ ts : List (Nat × Nat), d = dTs ts ∧ TiesOk n ts ∧ Bag y := by
  refine fnI_of rfl ?_
  unfold b__law_ties
  refine ev_seq (fun s => ∃ (b : D) (kind : Nat) (spots : List Nat), s = [.own b, .sh (dN n), .sh (dN kind), .sh (dNs spots), .un, .un, .un, .un, .un, .un, .un, .un] ∧ Bag b ∧ spots.Perm (List.range n)) (Ev.of ?_) ?_
  · simp (dsimp := false)
    obtain ⟨_, y, e, r, rfl, hr, hy⟩ := draw_ok (lim := 11) hx (by omega) (by omega)
    refine CiH.mk e ?_
    simp (dsimp := false) [lrg1D_nat (show n ≤ 2 ^ 24 by omega)]
    obtain ⟨_, y2, e2, l, rfl, hp, hy2⟩ := mixed_range (n := n) hy (by omega)
    refine CiH.mk e2 ?_
    simp (dsimp := false)
    exact ⟨y2, r, l, ⟨rfl, rfl, rfl⟩, hy2, hp⟩
  rintro _ ⟨b, kind, spots, rfl, hb, hsp⟩
  refine ev_seq (fun s => s = [.own b, .sh (dN n), .sh (dN kind), .sh (dNs spots), .sh (dN (if n < 5 then 3 else 4)), .un, .un, .un, .un, .un, .un, .un]) (Ev.of ?_) ?_
  · simp (dsimp := false)
    refine BrH.both (fun e => ?_) fun e => ?_
    · have e' : n < 5 := by simp at e; omega
      simp (dsimp := false) [e']
    · have e' : ¬ n < 5 := by simp at e; omega
      simp (dsimp := false) [e']
  rintro _ rfl
  have hR : ∃ R : Nat, (if n < 5 then 3 else 4) = R ∧ 0 < R ∧ R ≤ 4 := ⟨_, rfl, by split <;> decide, by split <;> decide⟩
  obtain ⟨R, hR0, hR1, hR2⟩ := hR
  rw [hR0]
  refine ev_seq (fun s => ∃ pl : List (Nat × Nat), s = [.own b, .sh (dN n), .sh (dN kind), .sh (dNs spots), .sh (dN R), .sh (dTs pl), .un, .un, .un, .un, .un, .un]) (Ev.of ?_) ?_
  · simp (dsimp := false)
    refine BrH.both (fun _ => ?_) fun _ => ?_
    · simp (dsimp := false)
    simp (dsimp := false)
    refine BrH.both (fun _ => ?_) fun _ => ?_
    · simp (dsimp := false) [lstD, DL.sizeLine_eq]
      exact ⟨[(0, 1), (0, 2), (1, 0), (1, 2), (2, 0), (2, 1)], by simp⟩
    simp (dsimp := false)
    refine BrH.both (fun _ => ?_) fun _ => ?_
    · simp (dsimp := false) [lstD, DL.sizeLine_eq]
      exact ⟨[(0, 1), (1, 0), (2, 0), (2, 1)], by simp⟩
    simp (dsimp := false)
    refine BrH.both (fun _ => ?_) fun _ => ?_
    · simp (dsimp := false)
      refine h_map (enc := dN) (List.range R) (fun k => dT (k, (k + 1) % R)) ?_ (by simp) (by simp; omega) ?_ ?_
      · simp (dsimp := false) [rng1D_nat (show R < 2 ^ 62 by omega), rngD0]
      · intro k hk
        simp (dsimp := false) [hR1]
      · have e : addD (.lst ((List.range R).map fun k => dT (k, (k + 1) % R))) (.lst [.tup [.int R, .int 0], .tup [.int R, .int 1]]) = some (dTs ((List.range R).map (fun k => (k, (k + 1) % R)) ++ [(R, 0), (R, 1)])) := by
          rw [addD_lst (by simp; omega)]; simp [Function.comp_def]
        simp (dsimp := false) [lstD, DL.sizeLine_eq, e, -List.map_append]
        exact ⟨_, rfl⟩
    simp (dsimp := false)
    refine BrH.both (fun _ => ?_) fun _ => ?_
    · simp (dsimp := false)
      refine h_map (enc := dN) (List.range n) (fun k => dT (k, k + 1)) ?_ (by simp) (by simp; omega) ?_ ?_
      · simp (dsimp := false) [rng1D_nat (show n < 2 ^ 62 by omega), rngD0]
      · intro k hk
        simp (dsimp := false)
      · simp (dsimp := false)
        exact ⟨(List.range n).map fun k => (k, k + 1), by simp [Function.comp_def]⟩
    · simp (dsimp := false)
      refine h_map (enc := dN) (List.range n) (fun k => dT (k, (k + 1) % max 1 n)) ?_ (by simp) (by simp; omega) ?_ ?_
      · simp (dsimp := false) [rng1D_nat (show n < 2 ^ 62 by omega), rngD0]
      · intro k hk
        have e : max2D (.int 1) (.int n) = some (dN (max 1 n)) := by
          simp only [max2D_int, Option.some.injEq, D.int.injEq]
          split <;> omega
        have h0 : 0 < max 1 n := by omega
        simp (dsimp := false) [e, h0]
      · simp (dsimp := false)
        exact ⟨(List.range n).map fun k => (k, (k + 1) % max 1 n), by simp [Function.comp_def]⟩
  rintro _ ⟨pl, rfl⟩
  refine ev_seq (fun s => ∃ (b : D) (share : Nat), s = [.own b, .sh (dN n), .sh (dN kind), .sh (dNs spots), .sh (dN R), .sh (dTs pl), .un, .sh (dN share), .own (.lst []), .un, .un, .un] ∧ Bag b) (Ev.of ?_) ?_
  · simp (dsimp := false)
    refine BrH.both (fun _ => ?_) fun _ => ?_
    · simp (dsimp := false) [lstD, DL.sizeLine_eq]
      exact ⟨b, ⟨rfl, 4, rfl⟩, hb⟩
    · simp (dsimp := false) [lstD, DL.sizeLine_eq]
      obtain ⟨_, y, e, ⟨m, hm, rfl⟩, hy⟩ := of_nats (ns := [0, 1, 3, 7]) hb (by simp) (by simp)
      refine CiH.mk e ?_
      simp (dsimp := false)
      exact ⟨y, ⟨rfl, m, rfl⟩, hy⟩
  rintro _ ⟨b, share, rfl, hb⟩
  obtain ⟨hsl, hsn, hslt⟩ := perm_range hsp
  refine Ev.of ?_
  simp (dsimp := false) [rng1D_nat (show n < 2 ^ 62 by omega)]
  refine EvH.of (ev_forR (fun i s => ∃ (b : D) (ts : List (Nat × Nat)), s = [.own b, .sh (dN n), .sh (dN kind), .sh (dNs spots), .sh (dN R), .sh (dTs pl), .un, .sh (dN share), .own (dTs ts), .un, .un, .un] ∧ Bag b ∧ TiesOk n ts ∧ Before spots i 0 ts) ?_ ?_ ?_)
  · exact ⟨b, [], rfl, hb, ⟨List.nodup_nil, by simp⟩, fun p hp => by cases hp⟩
  · rintro i s hi ⟨b, ts, rfl, hb, hts, hI⟩
    refine ev_seq (fun s => s = [.own b, .sh (dN n), .sh (dN kind), .sh (dNs spots), .sh (dN R), .sh (dTs pl), .un, .sh (dN share), .own (dTs ts), .sh (dN i), .un, .un]) (Ev.of ?_) ?_
    · simp (dsimp := false)
    rintro _ rfl
    refine Ev.of ?_
    simp (dsimp := false) [rng1D_nat (show n < 2 ^ 62 by omega)]
    refine EvH.of (ev_forR (fun j s => ∃ (b : D) (ts : List (Nat × Nat)), s = [.own b, .sh (dN n), .sh (dN kind), .sh (dNs spots), .sh (dN R), .sh (dTs pl), .un, .sh (dN share), .own (dTs ts), .sh (dN i), .un, .un] ∧ Bag b ∧ TiesOk n ts ∧ Before spots i j ts) ?_ ?_ ?_)
    · exact ⟨b, ts, rfl, hb, hts, hI⟩
    · rintro j s hj ⟨b, ts, rfl, hb, hts, hJ⟩
      refine ev_seq (fun s => s = [.own b, .sh (dN n), .sh (dN kind), .sh (dNs spots), .sh (dN R), .sh (dTs pl), .un, .sh (dN share), .own (dTs ts), .sh (dN i), .sh (dN j), .un]) (Ev.of ?_) ?_
      · simp (dsimp := false)
      rintro _ rfl
      refine ev_seq (fun s => ∃ (b : D) (z : Nat), s = [.own b, .sh (dN n), .sh (dN kind), .sh (dNs spots), .sh (dN R), .sh (dTs pl), .un, .sh (dN share), .own (dTs ts), .sh (dN i), .sh (dN j), .sh (dN z)] ∧ Bag b) (Ev.of ?_) ?_
      · simp (dsimp := false)
        obtain ⟨_, y, e, r, rfl, hr, hy⟩ := draw_ok (lim := 12) hb (by omega) (by omega)
        refine CiH.mk e ?_
        simp (dsimp := false)
        exact ⟨y, ⟨rfl, r, rfl⟩, hy⟩
      rintro _ ⟨b, z, rfl, hb⟩
      have hin : inD (.int kind) (.lst [.int 4, .int 5, .int 10]) = some (.bl (decide (kind ∈ [4, 5, 10]))) := in_nats (l := [4, 5, 10])
      refine ev_if_any (Ev.of ?_) (Ev.of ?_) (Ev.of ?_)
      · simp (dsimp := false) [in_ties, lstD, DL.sizeLine_eq, hin]
        repeat' first | (refine BrH.both (fun _ => ?_) fun _ => ?_) | simp (dsimp := false) [in_ties, lstD, DL.sizeLine_eq, hin]
      · obtain ⟨a, ha⟩ : ∃ a, spots[i]? = some a := ⟨_, List.getElem?_eq_getElem (by omega)⟩
        obtain ⟨c, hc⟩ : ∃ c, spots[j]? = some c := ⟨_, List.getElem?_eq_getElem (by omega)⟩
        have ea : ixD (dNs spots) (.int i) = some (dN a) := ixD_l (by simp [ha])
        have ec : ixD (dNs spots) (.int j) = some (dN c) := ixD_l (by simp [hc])
        have hlen := hts.len
        have hlen2 : ts.length < 16777216 := by have : n * n ≤ 8 * 8 := Nat.mul_le_mul hn hn; omega
        simp (dsimp := false) [ea, ec, appD_lst (ds := ts.map dT) (by simpa using hlen2)]
        refine ⟨b, ts ++ [(a, c)], by simp, hb, hts.snoc ?_ (hslt a (List.mem_of_getElem? ha)) (hslt c (List.mem_of_getElem? hc)), ?_⟩
        · intro hm
          obtain ⟨s, t, h1, h2, h3⟩ := hJ _ hm
          have e1 : s = i := (List.getElem?_inj (by omega) hsn).1 (by rw [h2, ha]) 
          have e2 : t = j := (List.getElem?_inj (by omega) hsn).1 (by rw [h3, hc])
          omega
        · intro p hp
          rcases List.mem_append.1 hp with hp | hp
          · exact hJ.mono (fun s t h _ => by omega) p hp
          · rw [List.mem_singleton.1 hp]
            exact ⟨i, j, by omega, ha, hc⟩
      · simp (dsimp := false)
        exact ⟨b, ts, by simp, hb, hts, hJ.mono (fun s t h _ => by omega)⟩
    · rintro s ⟨b, ts, rfl, hb, hts, hJ⟩
      simp (dsimp := false)
      exact ⟨b, ts, by simp, hb, hts, hJ.mono (fun s t h h2 => by omega)⟩
  · rintro s ⟨b, ts, rfl, hb, hts, hI⟩
    obtain ⟨l, e, p⟩ := sort_ties (l := ts)
    simp (dsimp := false) [e]
    exact ⟨l, rfl, hts.perm p, hb⟩
end K47

/-! ## K47f3 -/
namespace K47
open PySem L2 DL
abbrev dNames (l : List Str) : D := .lst (l.map .str)
structure NamesOk (n : Nat) (zs : List Str) : Prop where
  len : zs.length = n
  nd : zs.Nodup
  ok : ∀ z ∈ zs, NameOk z
theorem web_ok {x : D} (hx : Bag x) : ∃ d y, d__law_web x [.int 6] = .ok d y ∧ ∃ (n : Nat) (zs : List Str) (ts : List (Nat × Nat)), d = .tup [dNames zs, dTs ts] ∧ n ≤ 6 ∧ NamesOk n zs ∧ TiesOk n ts ∧ Bag y := by
  refine fnI_of rfl ?_
  unfold b__law_web
  refine Ev.of ?_
  simp (dsimp := false)
  obtain ⟨_, y, e, n, rfl, hn, hy⟩ := size_ok hx
  refine CiH.mk e ?_
  simp (dsimp := false)
  obtain ⟨_, y2, e2, zs, rfl, h1, h2, h3, hy2⟩ := fresh_ok (near := []) (n := n) hy (by simp) (by simp) (by omega)
  refine CiH.mk e2 ?_
  simp (dsimp := false)
  obtain ⟨_, y3, e3, ts, rfl, h4, hy3⟩ := ties_ok (n := n) hy2 (by omega)
  refine CiH.mk e3 ?_
  simp (dsimp := false)
  refine ⟨n, zs, ts, ⟨rfl, rfl⟩, hn, ⟨h1, h2, h3⟩, h4, hy3⟩
/-! ### a drawn bare ring -/
def prv (ring : List Nat) (k : Nat) : Nat := ring.getD (if k = 0 then ring.length - 1 else k - 1) 0
def cur (ring : List Nat) (k : Nat) : Nat := ring.getD k 0
theorem cur_get {ring : List Nat} {k : Nat} (h : k < ring.length) : ring[k]? = some (cur ring k) := by unfold cur; simp [h]
theorem prv_get {ring : List Nat} {k : Nat} (h : k < ring.length) : ring[if k = 0 then ring.length - 1 else k - 1]? = some (prv ring k) := by
  unfold prv
  have : (if k = 0 then ring.length - 1 else k - 1) < ring.length := by split <;> omega
  simp [this]
theorem ix_prev {ring : List Nat} {k : Nat} (h : k < ring.length) : ixD (dNs ring) (.int ((k : Int) - 1)) = some (dN (prv ring k)) := by
  rw [ixD_lst]
  have hg := prv_get h
  unfold atI ixN
  by_cases h0 : k = 0
  · subst h0
    rw [if_neg (by omega), if_pos (by simp; omega)]
    simp only [if_true] at hg
    have : (((0 : Nat) : Int) - 1 + ((ring.map dN).length : Int)).toNat = ring.length - 1 := by simp; omega
    rw [this]
    simp [hg]
  · rw [if_pos (by omega), if_pos (by simp; omega)]
    rw [if_neg h0] at hg
    have : ((k : Int) - 1).toNat = k - 1 := by omega
    simp [this, hg]
theorem ix_cur {ring : List Nat} {k : Nat} (h : k < ring.length) : ixD (dNs ring) (.int (k : Int)) = some (dN (cur ring k)) := ixD_l (by simp [cur_get h])
def ringT (ring : List Nat) : List (Nat × Nat) := (List.range ring.length).map fun k => (prv ring k, cur ring k)
theorem cur_inj {ring : List Nat} (hn : ring.Nodup) {j k : Nat} (hj : j < ring.length) (hk : k < ring.length) (e : cur ring j = cur ring k) : j = k := by
  refine (List.getElem?_inj hj hn).1 ?_
  rw [cur_get hj, cur_get hk, e]
theorem prv_inj {ring : List Nat} (hn : ring.Nodup) {j k : Nat} (hj : j < ring.length) (hk : k < ring.length) (e : prv ring j = prv ring k) : j = k := by
  have h1 : (if j = 0 then ring.length - 1 else j - 1) < ring.length := by split <;> omega
  have := (List.getElem?_inj (j := if k = 0 then ring.length - 1 else k - 1) h1 hn).1 (by rw [prv_get hj, prv_get hk, e])
  by_cases h2 : j = 0 <;> by_cases h3 : k = 0 <;> simp only [h2, h3, if_true, if_false] at this <;> omega
theorem cur_mem {ring : List Nat} {k : Nat} (h : k < ring.length) : cur ring k ∈ ring := List.mem_of_getElem? (cur_get h)
theorem prv_mem {ring : List Nat} {k : Nat} (h : k < ring.length) : prv ring k ∈ ring := List.mem_of_getElem? (prv_get h)
theorem ringT_ok {n : Nat} {ring : List Nat} (hn : ring.Nodup) (hl : ∀ a ∈ ring, a < n) : TiesOk n (ringT ring) := by
  refine ⟨?_, fun p hp => ?_⟩
  · unfold ringT List.Nodup
    rw [List.pairwise_map]
    refine List.Pairwise.imp_of_mem ?_ (List.nodup_range (n := ring.length))
    intro i j hi hj hne e
    simp only [Prod.mk.injEq] at e
    exact hne (cur_inj hn (by simpa using hi) (by simpa using hj) e.2)
  · obtain ⟨k, hk, rfl⟩ := List.mem_map.1 hp
    have hk' : k < ring.length := by simpa using hk
    exact ⟨hl _ (prv_mem hk'), hl _ (cur_mem hk')⟩
theorem ringT_bare {ring : List Nat} (hn : ring.Nodup) : Bare (ringT ring) ring := by
  intro j k a b hjk ha hb s ⟨h1, h2⟩
  obtain ⟨i1, hi1, e1⟩ := List.mem_map.1 h1
  obtain ⟨i2, hi2, e2⟩ := List.mem_map.1 h2
  simp only [Prod.mk.injEq] at e1 e2
  have l1 : i1 < ring.length := by simpa using hi1
  have l2 : i2 < ring.length := by simpa using hi2
  have hj : j < ring.length := (List.getElem?_eq_some_iff.1 ha).1
  have hk : k < ring.length := (List.getElem?_eq_some_iff.1 hb).1
  have e3 : cur ring j = a := by rw [cur_get hj] at ha; exact Option.some.inj ha
  have e4 : cur ring k = b := by rw [cur_get hk] at hb; exact Option.some.inj hb
  have f1 := cur_inj hn l1 hj (e1.2.trans e3.symm)
  have f2 := cur_inj hn l2 hk (e2.2.trans e4.symm)
  have f3 := prv_inj hn l1 l2 (e1.1.trans e2.1.symm)
  omega
structure BareTies (n : Nat) (ts : List (Nat × Nat)) (ring : List Nat) : Prop where
  ne : ring ≠ []
  nd : ring.Nodup
  lt : ∀ a ∈ ring, a < n
  go : ∀ k, k < ring.length → (prv ring k, cur ring k) ∈ ts
  bare : Bare ts ring
theorem Bare.perm {ts us : List (Nat × Nat)} {ring : List Nat} (h : Bare ts ring) (s : ∀ p ∈ us, p ∈ ts) : Bare us ring := fun j k a b h1 h2 h3 t ⟨h4, h5⟩ => h j k a b h1 h2 h3 t ⟨s _ h4, s _ h5⟩
theorem bare_ties_ok {x : D} {n : Nat} (hx : Bag x) (h1 : 1 ≤ n) (hn : n ≤ 8) : ∃ d y, d__law_bare_ties x [.int n] = .ok d y ∧ ∃ (ts : List (Nat × Nat)) (ring : List Nat), d = dTs ts ∧ TiesOk n ts ∧ BareTies n ts ring ∧ Bag y := by
  refine fnI_of rfl ?_
  unfold b__law_bare_ties
  refine ev_seq (fun s => ∃ (b : D) (spots : List Nat), s = [.own b, .sh (dN n), .sh (dNs spots), .un, .un, .un, .un, .un] ∧ Bag b ∧ spots.Perm (List.range n)) (Ev.of ?_) ?_
  · simp (dsimp := false) [lrg1D_nat (show n ≤ 2 ^ 24 by omega)]
    obtain ⟨_, y2, e2, l, rfl, hp, hy2⟩ := mixed_range (n := n) hx (by omega)
    refine CiH.mk e2 ?_
    simp (dsimp := false)
    exact ⟨y2, l, ⟨rfl, rfl⟩, hy2, hp⟩
  rintro _ ⟨b, spots, rfl, hb, hsp⟩
  obtain ⟨hsl, hsn, hslt⟩ := perm_range hsp
  refine ev_seq (fun s => ∃ (b : D) (ring : List Nat), s = [.own b, .sh (dN n), .sh (dNs spots), .sh (dNs ring), .un, .un, .un, .un] ∧ Bag b ∧ ring ≠ [] ∧ ring.Nodup ∧ ring.length ≤ 8 ∧ ∀ a ∈ ring, a < n) (Ev.of ?_) ?_
  · simp (dsimp := false)
    obtain ⟨_, y, e, r, rfl, hr, hy⟩ := draw_ok (lim := n) hb (by omega) (by omega)
    refine CiH.mk e ?_
    have e1 : slD (dNs spots) none (some (1 + (r : Int))) = some (dNs (spots.take (1 + r))) := by
      have := slD_to (ds := spots.map dN) (n := 1 + r)
      rw [Int.natCast_add] at this
      rw [← List.map_take] at this
      exact this
    simp (dsimp := false) [e1, -List.map_take]
    refine ⟨y, spots.take (1 + r), ⟨rfl, rfl⟩, hy, ?_, ?_, ?_, ?_⟩
    · intro h0
      have := congrArg List.length h0
      rw [List.length_take, List.length_nil] at this; omega
    · exact hsn.sublist (List.take_sublist _ _)
    · rw [List.length_take]; omega
    · intro a ha
      exact hslt a (List.mem_of_mem_take ha)
  rintro _ ⟨b, ring, rfl, hb, hr0, hrn, hr8, hrl⟩
  refine ev_seq (fun s => ∃ (ts : List (Nat × Nat)), s = [.own b, .sh (dN n), .sh (dNs spots), .sh (dNs ring), .own (dTs ts), .un, .un, .un] ∧ ts.Perm (ringT ring)) (Ev.of ?_) ?_
  · simp (dsimp := false)
    refine h_map (enc := dN) (List.range ring.length) (fun k => dT (prv ring k, cur ring k)) ?_ (by simp) (by simp; omega) ?_ ?_
    · simp (dsimp := false) [rng1D_nat (show ring.length < 2 ^ 62 by omega), rngD0]
    · intro k hk
      have hk' : k < ring.length := by simpa using hk
      simp (dsimp := false) [ix_prev hk', ix_cur hk']
    · obtain ⟨l, e, p⟩ := sort_ties (l := ringT ring)
      have e2 : (List.range ring.length).map (fun k => dT (prv ring k, cur ring k)) = (ringT ring).map dT := by unfold ringT; rw [List.map_map]; rfl
      simp (dsimp := false) only [e2, e, smH_some]
      simp (dsimp := false)
      exact ⟨l, rfl, p⟩
  rintro _ ⟨ts0, rfl, hp0⟩
  have ht0 := (ringT_ok hrn hrl).perm hp0
  have hb0 : BareTies n ts0 ring := ⟨hr0, hrn, hrl, fun k hk => hp0.symm.subset (List.mem_map.2 ⟨k, by simpa using hk, rfl⟩), (ringT_bare hrn).perm fun p hp => hp0.subset hp⟩
  have hlen64 : ∀ ts, TiesOk n ts → ts.length ≤ 64 := fun ts h => Nat.le_trans h.len (Nat.mul_le_mul hn hn)
  refine Ev.of ?_
  simp (dsimp := false) [rng1D_nat (show n < 2 ^ 62 by omega)]
  refine EvH.of (ev_forR (fun i s => ∃ (b : D) (ts : List (Nat × Nat)), s = [.own b, .sh (dN n), .sh (dNs spots), .sh (dNs ring), .own (dTs ts), .un, .un, .un] ∧ Bag b ∧ TiesOk n ts ∧ BareTies n ts ring) ?_ ?_ ?_)
  · exact ⟨b, ts0, rfl, hb, ht0, hb0⟩
  · rintro i s hi ⟨b, ts, rfl, hb, hts, hbt⟩
    refine ev_seq (fun s => s = [.own b, .sh (dN n), .sh (dNs spots), .sh (dNs ring), .own (dTs ts), .un, .sh (dN i), .un]) (Ev.of ?_) ?_
    · simp (dsimp := false)
    rintro _ rfl
    refine Ev.of ?_
    simp (dsimp := false) [rng1D_nat (show n < 2 ^ 62 by omega)]
    refine EvH.of (ev_forR (fun j s => ∃ (b : D) (ts : List (Nat × Nat)), s = [.own b, .sh (dN n), .sh (dNs spots), .sh (dNs ring), .own (dTs ts), .un, .sh (dN i), .un] ∧ Bag b ∧ TiesOk n ts ∧ BareTies n ts ring) ?_ ?_ ?_)
    · exact ⟨b, ts, rfl, hb, hts, hbt⟩
    · rintro j s hj ⟨b, ts, rfl, hb, hts, hbt⟩
      refine Ev.of ?_
      simp (dsimp := false)
      obtain ⟨_, y, e, r, rfl, hr, hy⟩ := draw_ok (lim := 3) hb (by omega) (by omega)
      refine CiH.mk e ?_
      simp (dsimp := false)
      refine BrH.both (fun _ => ?_) fun _ => ?_
      · simp (dsimp := false) [notin_ties]
        refine BrH.both (fun h => ?_) fun _ => ?_
        · have hnew : (i, j) ∉ ts := by simpa using h
          have hadd : addD (dTs ts) (.lst [.tup [.int i, .int j]]) = some (dTs (ts ++ [(i, j)])) := by
            rw [addD_lst (by have := hlen64 ts hts; simp; omega)]; simp
          have h2 := hts.snoc (p := (i, j)) hnew hi hj
          have hl2 := hlen64 _ h2
          simp (dsimp := false) [hadd, -List.map_append]
          obtain ⟨_, e3, b3, rfl, hB⟩ := is_bare_ok (ts := ts ++ [(i, j)]) (ring := ring) (R := dNs ring) (by omega) (by omega) (by simp) (fun k a h => ixD_l (by simp [h]))
          refine ClH.mk e3 ?_
          simp (dsimp := false) [-List.map_append]
          cases b3 with
          | false =>
            simp (dsimp := false) [-List.map_append]
            exact ⟨y, ts, ⟨rfl, rfl⟩, hy, hts, hbt⟩
          | true =>
            have hlt : ts.length < 16777216 := by have := hlen64 ts hts; omega
            simp (dsimp := false) [appD_lst (ds := ts.map dT) (by simpa using hlt)]
            exact ⟨y, ts ++ [(i, j)], ⟨rfl, by simp⟩, hy, h2, hbt.ne, hbt.nd, hbt.lt, fun k hk => List.mem_append_left _ (hbt.go k hk), hB.1 rfl⟩
        · simp (dsimp := false)
          exact ⟨y, ts, ⟨rfl, rfl⟩, hy, hts, hbt⟩
      · simp (dsimp := false)
        exact ⟨y, ts, ⟨rfl, rfl⟩, hy, hts, hbt⟩
    · rintro s ⟨b, ts, rfl, hb, hts, hbt⟩
      simp (dsimp := false)
      exact ⟨b, ts, ⟨rfl, rfl⟩, hb, hts, hbt⟩
  · rintro s ⟨b, ts, rfl, hb, hts, hbt⟩
    obtain ⟨l, e, p⟩ := sort_ties (l := ts)
    simp (dsimp := false) [e]
    refine ⟨l, rfl, hts.perm p, ⟨ring, hbt.ne, hbt.nd, hbt.lt, fun k hk => p.symm.subset (hbt.go k hk), hbt.bare.perm fun q hq => p.subset hq⟩, hb⟩
end K47

/-! ## K47g1 -/
namespace K47
open PySem L2 DL
/-! ### rings, by going on from room to room -/
inductive Way (ts : List (Nat × Nat)) (r : Nat) : List Nat → Nat → Prop
  | one : Way ts r [r] r
  | snoc {w : List Nat} {a t : Nat} (h : Way ts r w a) (e : (a, t) ∈ ts) (l : r < t) (n : t ∉ w) : Way ts r (w ++ [t]) t
section
variable {ts : List (Nat × Nat)} {r n : Nat}
theorem Way.last {w : List Nat} {a : Nat} (h : Way ts r w a) : ∃ u, w = u ++ [a] := by
  cases h with
  | one => exact ⟨[], rfl⟩
  | snoc h e l n => exact ⟨_, rfl⟩
theorem Way.uniq {w : List Nat} {a b : Nat} (h : Way ts r w a) (k : Way ts r w b) : a = b := by
  obtain ⟨u, e⟩ := h.last
  obtain ⟨v, e2⟩ := k.last
  rw [e] at e2
  have := congrArg List.getLast? e2
  simpa using this
theorem Way.nd {w : List Nat} {a : Nat} (h : Way ts r w a) : w.Nodup := by
  induction h with
  | one => simp
  | snoc h e l n ih =>
    rw [List.nodup_append]
    exact ⟨ih, by simp, fun x hx y hy e => by rw [List.mem_singleton.1 hy] at e; exact n (e ▸ hx)⟩
theorem Way.lt {w : List Nat} {a : Nat} (h : Way ts r w a) (hr : r < n) (ht : TiesOk n ts) : ∀ x ∈ w, x < n := by
  induction h with
  | one => intro x hx; rw [List.mem_singleton.1 hx]; exact hr
  | snoc h e l nn ih =>
    intro x hx
    rcases List.mem_append.1 hx with hx | hx
    · exact ih x hx
    · rw [List.mem_singleton.1 hx]; exact (ht.lt _ e).2
theorem Way.len {w : List Nat} {a : Nat} (h : Way ts r w a) (hr : r < n) (ht : TiesOk n ts) : w.length ≤ n := by
  have := nodup_le (m := List.range n) h.nd fun x hx => by simpa using h.lt hr ht x hx
  simpa using this
theorem Way.ne {w : List Nat} {a : Nat} (h : Way ts r w a) : w ≠ [] := by
  obtain ⟨u, rfl⟩ := h.last; simp
theorem Way.pre {w : List Nat} {a : Nat} (h : Way ts r w a) : [r] <+: w := by
  induction h with
  | one => exact List.prefix_rfl
  | snoc h e l nn ih => exact ih.trans (List.prefix_append ..)
theorem Way.on {w v : List Nat} {a b : Nat} (h : Way ts r w a) (k : Way ts r v b) (p : v <+: w) : v = w ∨ ∃ t, v ++ [t] <+: w ∧ (b, t) ∈ ts ∧ r < t ∧ t ∉ v := by
  induction h with
  | one =>
    obtain ⟨x, e⟩ := p
    cases v with
    | nil => exact absurd rfl k.ne
    | cons y v =>
      simp at e
      obtain ⟨rfl, rfl, rfl⟩ := e
      exact .inl rfl
  | snoc h e l nn ih =>
    rename_i u a t
    rw [List.prefix_concat_iff] at p
    rcases p with p | p
    · exact .inl p
    · rcases ih p with rfl | ⟨t', h1, h2⟩
      · exact .inr ⟨t, List.prefix_rfl, by rw [← h.uniq k]; exact e, l, nn⟩
      · exact .inr ⟨t', h1.trans (List.prefix_append ..), h2⟩
end
def wt (w : List Nat) : Nat := 7 ^ (6 - w.length)
def wts (l : List (List Nat)) : Nat := (l.map wt).sum
theorem wt_pos {w : List Nat} : 1 ≤ wt w := Nat.pow_pos (by decide)
theorem len_wts {l : List (List Nat)} : l.length ≤ wts l := by
  induction l with
  | nil => exact Nat.zero_le _
  | cons w l ih =>
    have := wt_pos (w := w)
    unfold wts at *
    simp only [List.map_cons, List.sum_cons, List.length_cons]; omega
theorem wts_append {a b : List (List Nat)} : wts (a ++ b) = wts a + wts b := by simp [wts]
theorem wts_ext {v : List Nat} {es : List Nat} (h : es.length ≤ 6) (hv : v.length ≤ 5) : wts (es.map fun t => v ++ [t]) < wt v := by
  have h1 : ∀ l : List Nat, wts (l.map fun t => v ++ [t]) = l.length * 7 ^ (5 - v.length) := by
    intro l
    induction l with
    | nil => simp [wts]
    | cons t l ih =>
      unfold wts at *
      simp only [List.map_cons, List.sum_cons, List.length_cons, ih]
      have : wt (v ++ [t]) = 7 ^ (5 - v.length) := by
        unfold wt
        rw [List.length_append, List.length_singleton]
        congr 1
        omega
      rw [this, Nat.succ_mul]; omega
  rw [h1]
  unfold wt
  have e : 6 - v.length = (5 - v.length) + 1 := by omega
  rw [e, Nat.pow_succ]
  have : 0 < 7 ^ (5 - v.length) := Nat.pow_pos (by decide)
  calc es.length * 7 ^ (5 - v.length) ≤ 6 * 7 ^ (5 - v.length) := Nat.mul_le_mul_right _ h
    _ < _ := by omega
theorem add_tup {v : List Nat} {t : Nat} (h : v ≠ []) (hl : v.length ≤ 100) : addD (dTup v) (.tup [.int t]) = some (dTup (v ++ [t])) := by
  cases v with
  | nil => exact absurd rfl h
  | cons x v =>
    have e := addD_tup (x := dN x) (a := v.map dN) (b := [.int t]) (by simp at hl ⊢; omega)
    unfold dTup
    rw [List.map_cons, e]
    simp
theorem ix_lastT {u : List Nat} {a : Nat} : ixD (dTup (u ++ [a])) (.int (-1)) = some (dN a) := by
  rw [ixD_tup, List.map_append]; exact atI_last
/-- what has been found when the rooms before the i-th have been gone on from -/
structure RingsAt (ts : List (Nat × Nat)) (i : Nat) (found : List (List Nat)) : Prop where
  snd : ∀ w ∈ found, ∃ r a, Way ts r w a ∧ (a, r) ∈ ts
  all : ∀ r w a, r < i → Way ts r w a → (a, r) ∈ ts → w ∈ found
  len : found.length ≤ i * 20000
structure GoOn (ts : List (Nat × Nat)) (r : Nat) (k : Nat) (stack found : List (List Nat)) : Prop where
  snd : ∀ w ∈ found, ∃ r a, Way ts r w a ∧ (a, r) ∈ ts
  old : ∀ r' w a, r' < r → Way ts r' w a → (a, r') ∈ ts → w ∈ found
  st : ∀ v ∈ stack, ∃ a, Way ts r v a
  all : ∀ w a, Way ts r w a → (a, r) ∈ ts → (∃ v ∈ stack, v <+: w) ∨ w ∈ found
  len : found.length + k ≤ r * 20000 + 20000
  ms : wts stack = k
theorem RingsAt.go {ts : List (Nat × Nat)} {r : Nat} {found : List (List Nat)} (h : RingsAt ts r found) : GoOn ts r (7 ^ 5) [[r]] found := by
  refine ⟨h.snd, h.all, fun v hv => ?_, fun w a hw _ => .inl ⟨[r], by simp, ?_⟩, ?_, ?_⟩
  · rw [List.mem_singleton.1 hv]; exact ⟨r, .one⟩
  · exact hw.pre
  · have := h.len
    have : (7 : Nat) ^ 5 = 16807 := by decide
    omega
  · simp [wts, K47.wt]
theorem GoOn.done {ts : List (Nat × Nat)} {r k : Nat} {found : List (List Nat)} (h : GoOn ts r k [] found) : RingsAt ts (r + 1) found := by
  refine ⟨h.snd, fun r' w a hr hw e => ?_, by have := h.len; omega⟩
  by_cases e2 : r' = r
  · subst e2
    rcases h.all w a hw e with ⟨v, hv, _⟩ | h2
    · cases hv
    · exact h2
  · exact h.old r' w a (by omega) hw e
theorem GoOn.step {ts : List (Nat × Nat)} {n r k a : Nat} {st found : List (List Nat)} {v to : List Nat} (hr : r < n) (hn : n ≤ 6) (ht : TiesOk n ts) (hv : Way ts r v a) (hto : ∀ t, t ∈ to ↔ (a, t) ∈ ts) (htl : to.length ≤ 6) (h : GoOn ts r k (st ++ [v]) found) :
    ∃ k', k' < k ∧ GoOn ts r k' (st ++ (to.filter fun t => decide (r < t) && !decide (t ∈ v)).map fun t => v ++ [t]) (if r ∈ to then found ++ [v] else found) := by
  have hw := h.ms
  rw [wts_append] at hw
  have hw1 : wts [v] = wt v := by simp [wts]
  have hlt : wts ((to.filter fun t => decide (r < t) && !decide (t ∈ v)).map fun t => v ++ [t]) < wt v := by
    have hl := hv.len hr ht
    by_cases h6 : v.length ≤ 5
    · exact wts_ext (Nat.le_trans (List.length_filter_le ..) htl) h6
    · have : (to.filter fun t => decide (r < t) && !decide (t ∈ v)) = [] := by
        rw [List.filter_eq_nil_iff]
        intro t hm hp
        simp only [Bool.and_eq_true, decide_eq_true_eq, Bool.not_eq_true', decide_eq_false_iff_not] at hp
        have := (Way.snoc hv ((hto t).1 hm) hp.1 hp.2).len hr ht
        simp at this; omega
      rw [this]
      exact wt_pos
  refine ⟨wts (st ++ (to.filter fun t => decide (r < t) && !decide (t ∈ v)).map fun t => v ++ [t]), by rw [wts_append]; omega, ?_⟩
  have sub : ∀ w, w ∈ found → w ∈ (if r ∈ to then found ++ [v] else found) := fun w hw => by split <;> simp [hw]
  refine ⟨fun w hw => ?_, fun r' w b h1 h2 h3 => sub w (h.old r' w b h1 h2 h3), fun w hw => ?_, fun w b h1 h2 => ?_, ?_, rfl⟩
  · split at hw
    · rename_i hm
      rcases List.mem_append.1 hw with hw | hw
      · exact h.snd w hw
      · rw [List.mem_singleton.1 hw]; exact ⟨r, a, hv, (hto r).1 hm⟩
    · exact h.snd w hw
  · rcases List.mem_append.1 hw with hw | hw
    · exact h.st w (List.mem_append_left _ hw)
    · obtain ⟨t, hm, rfl⟩ := List.mem_map.1 hw
      simp only [List.mem_filter, Bool.and_eq_true, decide_eq_true_eq, Bool.not_eq_true', decide_eq_false_iff_not] at hm
      exact ⟨t, .snoc hv ((hto t).1 hm.1) hm.2.1 hm.2.2⟩
  · rcases h.all w b h1 h2 with ⟨u, hu, hp⟩ | h3
    · rcases List.mem_append.1 hu with hu | hu
      · exact .inl ⟨u, List.mem_append_left _ hu, hp⟩
      · rw [List.mem_singleton.1 hu] at hp
        rcases h1.on hv hp with e | ⟨t, h4, h5, h6, h7⟩
        · right
          subst e
          have : a = b := hv.uniq h1
          subst this
          rw [if_pos ((hto r).2 h2)]
          simp
        · exact .inl ⟨v ++ [t], List.mem_append_right _ (List.mem_map.2 ⟨t, List.mem_filter.2 ⟨(hto t).2 h5, by simp [h6, h7]⟩, rfl⟩), h4⟩
    · exact .inr (sub w h3)
  · have := h.len
    rw [wts_append]
    split
    · simp; omega
    · omega
end K47

/-! ## K47g2 -/
namespace K47
open PySem L2 DL
theorem hear_fn {ts : List (Nat × Nat)} (hl : ts.length ≤ 16777216) : ∃ f : Nat → List Nat, ∀ s : Nat, d__law_hearers [dTs ts, .int s] = .ok (dNs (f s)) ∧ (f s).Perm ((ts.filter fun p => decide (p.1 = s)).map (·.2)) := by
  have h : ∀ s : Nat, ∃ l : List Nat, d__law_hearers [dTs ts, .int s] = .ok (dNs l) ∧ l.Perm ((ts.filter fun p => decide (p.1 = s)).map (·.2)) := fun s => by
    obtain ⟨_, e, l, rfl, p⟩ := hearers_ok (ts := ts) (r := s) hl
    exact ⟨l, e, p⟩
  exact ⟨fun s => Classical.choose (h s), fun s => Classical.choose_spec (h s)⟩
theorem hear_mem {ts : List (Nat × Nat)} {s t : Nat} : t ∈ (ts.filter fun p => decide (p.1 = s)).map (·.2) ↔ (s, t) ∈ ts := by
  simp only [List.mem_map, List.mem_filter, decide_eq_true_eq]
  exact ⟨fun ⟨p, ⟨h, e⟩, e2⟩ => by subst e e2; exact h, fun h => ⟨(s, t), ⟨h, rfl⟩, rfl⟩⟩
theorem hear_len {ts : List (Nat × Nat)} {n s : Nat} (ht : TiesOk n ts) : ((ts.filter fun p => decide (p.1 = s)).map (·.2)).length ≤ n := by
  have h1 : ((ts.filter fun p => decide (p.1 = s)).map (·.2)).Nodup := by
    unfold List.Nodup
    rw [List.pairwise_map]
    refine List.Pairwise.imp_of_mem ?_ (ht.nd.filter _)
    intro a b ha hb hne e
    simp only [List.mem_filter, decide_eq_true_eq] at ha hb
    exact hne (Prod.ext (ha.2.trans hb.2.symm) e)
  have := nodup_le (m := List.range n) h1 fun x hx => by
    rw [hear_mem] at hx
    simpa using (ht.lt _ hx).2
  simpa using this
theorem rings_ok {ts : List (Nat × Nat)} {n : Nat} (hn : n ≤ 6) (ht : TiesOk n ts) : ∃ d, d__law_rings [.int n, dTs ts] = .ok d ∧ ∃ rs : List (List Nat), d = .lst (rs.map dTup) ∧ RingsAt ts n rs := by
  have hl : ts.length ≤ 64 := Nat.le_trans ht.len (Nat.mul_le_mul (show n ≤ 8 by omega) (show n ≤ 8 by omega))
  obtain ⟨f, hf⟩ := hear_fn (ts := ts) (by omega)
  refine fnP_of rfl ?_
  unfold b__law_rings
  refine ev_seq (fun s => s = [.sh (dN n), .sh (dTs ts), .sh (.lst ((List.range n).map fun s => dNs (f s))), .un, .un, .un, .un, .un, .un]) (Ev.of ?_) ?_
  · simp (dsimp := false)
    refine h_map (enc := dN) (List.range n) (fun s => dNs (f s)) ?_ (by simp) (by simp; omega) ?_ ?_
    · simp (dsimp := false) [rng1D_nat (show n < 2 ^ 62 by omega), rngD0]
    · intro s hs
      simp (dsimp := false) [(hf s).1]
    · simp (dsimp := false)
  rintro _ rfl
  refine Ev.of ?_
  simp (dsimp := false) [rng1D_nat (show n < 2 ^ 62 by omega)]
  generalize hTO : (D.lst ((List.range n).map fun s => dNs (f s))) = TO
  have hTOg : ∀ a, a < n → ixD TO (.int a) = some (dNs (f a)) := fun a ha => by subst hTO; exact ixD_l (by simp [ha])
  clear hTO
  refine EvH.of (ev_forR (fun i s => ∃ found : List (List Nat), s = [.sh (dN n), .sh (dTs ts), .sh TO, .un, .own (.lst (found.map dTup)), .un, .un, .un, .un] ∧ RingsAt ts i found) ?_ ?_ ?_)
  · exact ⟨[], rfl, by simp, fun r w a h => by omega, by simp⟩
  · rintro r s hr ⟨found, rfl, hF⟩
    refine ev_seq (fun s => s = [.sh (dN n), .sh (dTs ts), .sh TO, .un, .own (.lst (found.map dTup)), .sh (dN r), .un, .un, .un]) (Ev.of ?_) ?_
    · simp (dsimp := false)
    rintro _ rfl
    refine ev_seq (fun s => s = [.sh (dN n), .sh (dTs ts), .sh TO, .un, .own (.lst (found.map dTup)), .sh (dN r), .own (.lst ([[r]].map dTup)), .un, .un]) (Ev.of ?_) ?_
    · simp (dsimp := false)
    rintro _ rfl
    refine ev_while (fun k s => ∃ (stack found : List (List Nat)), s = [.sh (dN n), .sh (dTs ts), .sh TO, .un, .own (.lst (found.map dTup)), .sh (dN r), .own (.lst (stack.map dTup)), .un, .un] ∧ GoOn ts r k stack found) ?_ fuel (7 ^ 5) _ (by unfold fuel; decide) ⟨[[r]], found, rfl, hF.go⟩
    rintro k s ⟨stack, found, rfl, hG⟩
    have hk : k ≤ 1000000 := by have := hG.len; have : r * 20000 ≤ 6 * 20000 := Nat.mul_le_mul_right _ (by omega); omega
    have hfl : found.length ≤ 1000000 := by have := hG.len; have : r * 20000 ≤ 6 * 20000 := Nat.mul_le_mul_right _ (by omega); omega
    rcases List.eq_nil_or_concat stack with rfl | ⟨st, v, rfl⟩
    · refine Ev.of ?_
      simp (dsimp := false)
      exact ⟨found, rfl, hG.done⟩
    · rw [List.concat_eq_append] at hG ⊢
      have hne : (((st ++ [v]).map dTup).isEmpty) = false := by simp
      have hpop : popD (.lst ((st ++ [v]).map dTup)) = some (dTup v, .lst (st.map dTup)) := by rw [List.map_append]; exact popD_snoc
      obtain ⟨a, hv⟩ := hG.st v (by simp)
      obtain ⟨u, hu⟩ := hv.last
      have han : a < n := hv.lt hr ht a (by rw [hu]; simp)
      have hvl := hv.len hr ht
      have hix : ixD (dTup v) (.int (-1)) = some (dN a) := by rw [hu]; exact ix_lastT
      have htl : (f a).length ≤ n := by rw [(hf a).2.length_eq]; exact hear_len ht
      have hto : ∀ t, t ∈ f a ↔ (a, t) ∈ ts := fun t => by rw [(hf a).2.mem_iff]; exact hear_mem
      have hstl : st.length + 1 ≤ k := by have := len_wts (l := st ++ [v]); rw [hG.ms] at this; simpa using this
      obtain ⟨k', hk', hG'⟩ := hG.step hr hn ht hv hto (by omega)
      refine Ev.of ?_
      simp (dsimp := false) [hne, -List.map_append]
      refine Ev.of ?_
      simp (dsimp := false) [hpop, hix, hTOg a han, in_nats, -List.map_append]
      have fin : ∀ (fd : List (List Nat)) (Q : D → Sl → Prop) (h : Hd Q), Q (.lst (((f a).filter fun t => decide (r < t) && !decide (t ∈ v)).map fun t => dTup (v ++ [t]))) [.sh (dN n), .sh (dTs ts), .sh TO, .un, .own (.lst (fd.map dTup)), .sh (dN r), .own (.lst (st.map dTup)), .sh (dTup v), .un] → EvH (eComp (itOf seqItems (eBin ixD (eVar 2) (eBin ixD (eVar 7) (eUn negD (eC (.int 1)))))) (tgN 8) (bAnd (tstB asBl (eBin gtD (eVar 8) (eVar 5))) (tstB asBl (eBin notInD (eVar 8) (eVar 7)))) (eBin addD (eVar 7) (eArgs tupD (aCons (eVar 8) aNil))) [8])
          [.sh (dN n), .sh (dTs ts), .sh TO, .un, .own (.lst (fd.map dTup)), .sh (dN r), .own (.lst (st.map dTup)), .sh (dTup v), .un] Q h := by
        intro fd Q h hQ
        refine h_comp (enc := dN) (f a) (fun t => decide (r < t) && !decide (t ∈ v)) (fun t => dTup (v ++ [t])) ?_ (by simp) (by omega) ?_ hQ
        · simp (dsimp := false) [hix, hTOg a han]
        · intro t _
          simp (dsimp := false) [-List.map_append]
          refine BrH.both (fun h => ?_) fun h => ?_
          · have h' : r < t := by simpa using h
            simp (dsimp := false) [h', notin_tup, add_tup hv.ne (show v.length ≤ 100 by omega), -List.map_append]
          · have h' : ¬ r < t := by simpa using h
            simp (dsimp := false) [h', -List.map_append]
      have hcat : catL (.lst (st.map dTup)) (.lst (((f a).filter fun t => decide (r < t) && !decide (t ∈ v)).map fun t => dTup (v ++ [t]))) = some (.lst ((st ++ ((f a).filter fun t => decide (r < t) && !decide (t ∈ v)).map fun t => v ++ [t]).map dTup)) := by
        rw [catL_lst (by
          have := List.length_filter_le (fun t => decide (r < t) && !decide (t ∈ v)) (f a)
          simp only [List.length_map]; omega)]
        rw [List.map_append, List.map_map]; rfl
      refine BrH.both (fun h => ?_) fun h => ?_
      · have hm : r ∈ f a := of_decide_eq_true h
        rw [if_pos hm] at hG'
        have happ : appD (dTup v) (.lst (found.map dTup)) = some (.non, .lst ((found ++ [v]).map dTup)) := by
          rw [appD_lst (by simp; omega)]; simp
        simp (dsimp := false) [happ, -List.map_append]
        refine fin _ _ _ ?_
        simp (dsimp := false) [hcat, -List.map_append]
        exact ⟨k', hk', _, _, ⟨rfl, rfl⟩, hG'⟩
      · have hm : ¬ r ∈ f a := of_decide_eq_false h
        rw [if_neg hm] at hG'
        simp (dsimp := false) [-List.map_append]
        refine fin _ _ _ ?_
        simp (dsimp := false) [hcat, -List.map_append]
        exact ⟨k', hk', _, _, ⟨rfl, rfl⟩, hG'⟩
  · rintro s ⟨found, rfl, hF⟩
    obtain ⟨l, e, p⟩ := sort_tups (l := found) fun w hw => by
      obtain ⟨r, a, h, _⟩ := hF.snd w hw
      exact h.ne
    simp (dsimp := false) [e]
    exact ⟨l, rfl, fun w hw => hF.snd w (p.subset hw), fun r w a h1 h2 h3 => p.symm.subset (hF.all r w a h1 h2 h3), by rw [p.length_eq]; exact hF.len⟩
open Classical in
theorem bares_ok {ts : List (Nat × Nat)} {n : Nat} (hn : n ≤ 6) (ht : TiesOk n ts) : ∃ d, d__law_bares [.int n, dTs ts] = .ok d ∧ ∃ bs : List (List Nat), d = .lst (bs.map dTup) ∧ (bs = [] ↔ ∀ r w a, r < n → Way ts r w a → (a, r) ∈ ts → ¬ Bare ts w) := by
  have hl : ts.length ≤ 64 := Nat.le_trans ht.len (Nat.mul_le_mul (show n ≤ 8 by omega) (show n ≤ 8 by omega))
  refine fnP_of rfl ?_
  unfold b__law_bares
  refine Ev.of ?_
  simp (dsimp := false)
  obtain ⟨_, e, rs, rfl, hR⟩ := rings_ok hn ht
  have hrl : rs.length ≤ 120000 := Nat.le_trans hR.len (by omega)
  refine h_comp (enc := dTup) rs (fun w => decide (Bare ts w)) dTup ?_ (by simp) (by omega) ?_ ?_
  · simp (dsimp := false) [e]
  · intro w hw
    obtain ⟨r, a, hway, hc⟩ := hR.snd w hw
    have hrn : r < n := (ht.lt _ hc).2
    have hwl := hway.len hrn ht
    obtain ⟨_, e2, b, rfl, hb⟩ := is_bare_ok (ts := ts) (ring := w) (R := dTup w) (by omega) (by omega) (by simp) (fun k a h => ixD_t (by simp [h]))
    have hb2 : b = decide (Bare ts w) := by
      cases b with
      | true => exact (decide_eq_true (hb.1 rfl)).symm
      | false => exact (decide_eq_false fun h => by have := hb.2 h; cases this).symm
    simp (dsimp := false) [e2, hb2]
  · simp (dsimp := false)
    refine ⟨rs.filter fun w => decide (Bare ts w), rfl, ?_⟩
    rw [List.filter_eq_nil_iff]
    constructor
    · intro h r w a h1 h2 h3 h4
      exact h w (hR.all r w a h1 h2 h3) (decide_eq_true h4)
    · intro h w hw hb
      obtain ⟨r, a, h1, h2⟩ := hR.snd w hw
      exact h r w a (ht.lt _ h2).2 h1 h2 (of_decide_eq_true hb)
end K47

/-! ## K47h1 -/
namespace K47
open PySem L2 DL
/-! ### repr of lots -/
def Small (z : Str) : Prop := ∀ c ∈ z.cps.toList, c < 128
theorem Small.app {a b : Str} (ha : Small a) (hb : Small b) : Small (a ++ b) := fun c hc => by
  rw [cps_app] at hc
  rcases List.mem_append.1 hc with h | h
  · exact ha c h
  · exact hb c h
theorem Small.ok {a : Str} (h : Small a) : PyData.strOk a = true := strOk_of h
theorem NameOk.small {z : Str} (h : NameOk z) : Small z := fun c hc => run_small (h.run c hc)
theorem small_lit {s : String} (h : (Str.ofString s).cps.toList.all (fun c => decide (c < 128)) = true) : Small (Str.ofString s) := fun c hc => of_decide_eq_true (List.all_eq_true.1 h c hc)
theorem repr_char : ∀ c, c < 128 → isRun c = true → Builtin.Str.reprChar 39 c = [c] := by decide +kernel
theorem repr_name {z : Str} (h : NameOk z) : (PySem.reprText z).cps.toList = 39 :: z.cps.toList ++ [39] := by
  have hq : PySem.reprQuote z = 39 := by
    unfold PySem.reprQuote
    have : z.cps.contains 39 = false := by
      rw [← Array.contains_toList]
      cases hc : z.cps.toList.contains 39 with
      | false => rfl
      | true =>
        have := h.run 39 (by simpa using hc)
        exact absurd this (by decide)
    rw [this]; rfl
  have key : ∀ (l : List Nat) (acc : Array Nat), (∀ c ∈ l, isRun c = true) → (l.foldl (fun out c => out ++ (Builtin.Str.reprChar 39 c).toArray) acc).toList = acc.toList ++ l := by
    intro l
    induction l with
    | nil => intro acc _; simp
    | cons c l ih =>
      intro acc hl
      have hc := hl c (by simp)
      rw [List.foldl_cons, ih _ fun d hd => hl d (by simp [hd]), repr_char c (run_small hc) hc]
      simp
  unfold PySem.reprText
  rw [hq, ← Array.foldl_toList]
  rw [Array.toList_push, key _ _ h.run]
  rfl
theorem repr_small {z : Str} (h : NameOk z) : Small (PySem.reprText z) := fun c hc => by
  rw [repr_name h] at hc
  simp at hc
  rcases hc with rfl | hc | rfl
  · decide
  · exact h.small c (by simpa using hc)
  · decide
theorem repr_len {z : Str} (h : NameOk z) : (PySem.reprText z).length ≤ 18 := by
  rw [← len_cps, repr_name h]
  have := h.hi
  rw [List.length_append, List.length_cons, len_cps, List.length_singleton]; omega
theorem join_small {sep : Str} (hs : Small sep) : ∀ {l : List Str}, (∀ z ∈ l, Small z) → Small (Str.join sep l)
  | [], _ => fun c hc => by simp [Str.join, Str.empty] at hc
  | [x], h => h x (by simp)
  | x :: y :: r, h => ((h x (by simp)).app hs).app (join_small hs (l := y :: r) fun z hz => h z (by simp at hz ⊢; exact .inr hz))
abbrev dLot (l : List Str) : D := .tup (l.map .str)
theorem shownAll_strs {l : List Str} : PyData.shownAll (pys (l.map .str)) = l.map PySem.reprText := by
  induction l with
  | nil => rfl
  | cons z l ih => simp only [List.map_cons, pys, PyData.shownAll, ih]; rfl
theorem lot_shown {l : List Str} (h : ∀ z ∈ l, NameOk z) (hl : l.length ≤ 12) : Small (dLot l).py.shown ∧ (dLot l).py.shown.length ≤ 300 := by
  have e : (dLot l).py.shown = tupleText (l.map PySem.reprText) := by
    simp only [D.py, PyData.shown, shownAll_strs]
  rw [e]
  unfold tupleText
  have hs : Small (", " : Str) := small_lit (by decide +kernel)
  have h1 : ∀ z ∈ l.map PySem.reprText, Small z := fun z hz => by
    obtain ⟨w, hw, rfl⟩ := List.mem_map.1 hz
    exact repr_small (h w hw)
  constructor
  · refine ((small_lit (by decide +kernel)).app (join_small hs h1)).app ?_
    split
    · exact small_lit (by decide +kernel)
    · exact small_lit (by decide +kernel)
  · have h2 := StrLaws.join_length_le (", " : Str) (l.map PySem.reprText)
    have h3 := StrLaws.sumLen_le (B := 18) (l.map PySem.reprText) fun z hz => by
      obtain ⟨w, hw, rfl⟩ := List.mem_map.1 hz
      exact repr_len (h w hw)
    have h4 : (", " : Str).length = 2 := by decide +kernel
    have h5 : ("(" : Str).length = 1 := by decide +kernel
    have h6 : (Str.ofString (if (l.map PySem.reprText).length == 1 then ",)" else ")" : String)).length ≤ 2 := by
      split <;> decide +kernel
    rw [len_app, len_app, h5]
    rw [h4, List.length_map] at h2
    rw [List.length_map] at h3
    omega
theorem text_small : ∀ {l : List Str} {k : Nat} {acc : Str}, Small acc → (∀ z ∈ l, Small z) → (∀ z ∈ l, z.length ≤ 300) → Small (PySem.textFrom k acc l) ∧ (PySem.textFrom k acc l).length ≤ acc.length + 302 * l.length
  | [], _, _, h, _, _ => ⟨h, Nat.le_add_right ..⟩
  | z :: l, k, acc, h, h2, h3 => by
    have hc : Small (if k > 0 then ", " else "" : String) := by split <;> exact small_lit (by decide +kernel)
    have hl : (Str.ofString (if k > 0 then ", " else "" : String)).length ≤ 2 := by split <;> decide +kernel
    have ih := text_small (l := l) (k := k + 1) (acc := acc ++ Str.ofString (if k > 0 then ", " else "" : String) ++ z) ((h.app hc).app (h2 z (by simp))) (fun w hw => h2 w (by simp [hw])) (fun w hw => h3 w (by simp [hw]))
    have hz := h3 z (by simp)
    rw [len_app, len_app] at ih
    refine ⟨ih.1, Nat.le_trans ih.2 ?_⟩
    simp only [List.length_cons]; omega
theorem shownAll_map {β : Type} {enc : β → D} {l : List β} : PyData.shownAll (pys (l.map enc)) = l.map fun b => (enc b).py.shown := by
  induction l with
  | nil => rfl
  | cons z l ih => simp only [List.map_cons, pys, PyData.shownAll, ih]
theorem showable_map {β : Type} {enc : β → D} {l : List β} (h : ∀ b ∈ l, (enc b).py.showable = true) : PyData.showableAll (pys (l.map enc)) = true := by
  induction l with
  | nil => rfl
  | cons z l ih => simp [pys, PyData.showableAll, h z (by simp), ih fun b hb => h b (by simp [hb])]
theorem noDict_map {β : Type} {enc : β → D} {l : List β} (h : ∀ b ∈ l, (enc b).py.hasDict = false) : PyData.hasDictAll (pys (l.map enc)) = false := by
  induction l with
  | nil => rfl
  | cons z l ih => simp [pys, PyData.hasDictAll, h z (by simp), ih fun b hb => h b (by simp [hb])]
theorem lots_repr {ls : List (List Str)} (h : ∀ l ∈ ls, l.length ≤ 12 ∧ ∀ z ∈ l, NameOk z) (hl : ls.length ≤ 300) : ∃ z, reprD (.lst (ls.map dLot)) = some (.str z) ∧ PyData.strOk z = true := by
  have hf : Fine 2 (.lst (ls.map dLot)) := fine_lst fun d hd => by
    obtain ⟨l, hl, rfl⟩ := List.mem_map.1 hd
    exact fine_tup fun d hd => by
      obtain ⟨z, hz, rfl⟩ := List.mem_map.1 hd
      exact ((h l hl).2 z hz).fine
  have e1 : (D.lst (ls.map dLot)).py.shown = listText (ls.map fun b => (dLot b).py.shown) := by
    simp only [D.py, PyData.shown, shownAll_map]
  have e2 : Small (listText (ls.map fun b => (dLot b).py.shown)) ∧ (listText (ls.map fun b => (dLot b).py.shown)).length ≤ 100000 := by
    unfold listText
    obtain ⟨h1, h2⟩ := text_small (l := ls.map fun b => (dLot b).py.shown) (k := 0) (acc := "[") (small_lit (by decide +kernel)) (fun z hz => by
      obtain ⟨l, hl, rfl⟩ := List.mem_map.1 hz
      exact (lot_shown (h l hl).2 (h l hl).1).1) (fun z hz => by
      obtain ⟨l, hl, rfl⟩ := List.mem_map.1 hz
      exact (lot_shown (h l hl).2 (h l hl).1).2)
    refine ⟨h1.app (small_lit (by decide +kernel)), ?_⟩
    have e3 : ("[" : Str).length = 1 := by decide +kernel
    have e4 : ("]" : Str).length = 1 := by decide +kernel
    rw [len_app, e4]
    rw [e3, List.length_map] at h2
    omega
  have s1 : (D.lst (ls.map dLot)).py.showable = true := by
    simp only [D.py, PyData.showable]
    refine showable_map fun l hl => ?_
    simp only [D.py, PyData.showable]
    exact showable_map fun z _ => by simp [D.py, PyData.showable]
  have s2 : (D.lst (ls.map dLot)).py.hasDict = false := by
    simp only [D.py, PyData.hasDict]
    refine noDict_map fun l hl => ?_
    simp only [D.py, PyData.hasDict]
    exact noDict_map fun z _ => by simp [D.py, PyData.hasDict]
  refine ⟨(D.lst (ls.map dLot)).py.shown, ?_, by rw [e1]; exact e2.1.ok⟩
  unfold reprD
  rw [if_pos]
  rw [hf.pl, s1, s2]
  have := hf.dep
  rw [e1]
  simp only [Bool.not_false, Bool.and_true, Bool.true_and, Bool.and_eq_true, decide_eq_true_eq, DL.sizeLine_eq]
  have e3 := e2.2
  exact ⟨decide_eq_true (by omega), by omega⟩
theorem told_ok {W : D} {ls : List (List Str)} (hW : d_lots_of [W] = some (ls.map dLot)) (h : ∀ l ∈ ls, l.length ≤ 12 ∧ ∀ z ∈ l, NameOk z) (hl : ls.length ≤ 300) : d__law_lots_told [W, .lst (ls.map dLot)] = .ok (.bl true) := by
  obtain ⟨z, hz, hz2⟩ := lots_repr h hl
  refine fnP_eq rfl ?_
  unfold b__law_lots_told
  refine Ev.of ?_
  simp (dsimp := false) [hW]
  refine EvH.of (ev_for (enc := dLot) (fun pre post s => s = [.sh W, .sh (.lst (ls.map dLot)), .own (.lst (pre.map dLot)), .un]) ?_ ?_ ?_)
  · rfl
  · rintro pre l post s e rfl
    have hlt : pre.length < ls.length := by have := congrArg List.length e; simp at this; omega
    refine Ev.of ?_
    simp (dsimp := false)
    refine BrH.both (fun h => ?_) fun _ => ?_
    · simp at h; omega
    · simp (dsimp := false) [appD_lst (ds := pre.map dLot) (by simp; omega)]
  · rintro s rfl
    simp (dsimp := false) [hz, eqD_str hz2 hz2]
end K47

/-! ## K47h2 -/
namespace K47
open PySem L2 DL
/-! ### the law's own lots -/
theorem joined_ok {rows : List (List Nat)} (hl : rows.flatten.length ≤ 16777216) : d__law_joined [.lst (rows.map dNs)] = .ok (dNs rows.flatten) := by
  refine fnP_eq rfl ?_
  unfold b__law_joined
  refine Ev.of ?_
  simp (dsimp := false)
  refine EvH.of (ev_for (enc := dNs) (fun pre post s => ∃ A : List Nat, s = [.sh (.lst (rows.map dNs)), .sh (dNs A), .un] ∧ A = pre.flatten) ?_ ?_ ?_)
  · exact ⟨[], rfl, rfl⟩
  · rintro pre l post s e ⟨A, rfl, hA⟩
    have h1 : A.length + l.length ≤ 16777216 := by
      have := congrArg (fun x => (List.flatten x).length) e
      simp only [List.flatten_append, List.length_append, List.flatten_cons, ← hA] at this
      omega
    have h2 : addD (dNs A) (dNs l) = some (dNs (A ++ l)) := by
      rw [addD_lst (by simpa using h1)]; simp
    have h3 : A ++ l = (pre ++ [l]).flatten := by rw [hA]; simp
    clear hA
    generalize A ++ l = A' at h2 h3
    refine Ev.of ?_
    simp (dsimp := false) [h2]
    rw [h3]; simp
  · rintro s ⟨A, rfl, hA⟩
    subst hA
    simp (dsimp := false)
def bits (m n : Nat) : List Nat := (List.range n).filter fun r => m.testBit r
def LotB (ts : List (Nat × Nat)) (L : List Nat) : Bool := L.all (fun r => !(tell ts r).isEmpty) && (decide ((L.flatMap (tell ts)).Nodup) && L.all fun r => decide (r ∈ L.flatMap (tell ts)))
def lotsOf (ts : List (Nat × Nat)) (n k : Nat) : List (List Nat) := ((List.range k).map fun i => bits (1 + i) n).filter (LotB ts)
theorem bit_test {m r : Nat} : truD (.int (Builtin.bitAnd ((m : Int) / 2 ^ r) 1)) = some (m.testBit r) := by
  have e : (m : Int) / 2 ^ r = ((m / 2 ^ r : Nat) : Int) := by simp
  rw [e]
  have e2 : Builtin.bitAnd ((m / 2 ^ r : Nat) : Int) 1 = ((m / 2 ^ r % 2 : Nat) : Int) := by
    unfold Builtin.bitAnd
    have h1 : decide ((0 : Int) ≤ ((m / 2 ^ r : Nat) : Int)) = true := decide_eq_true (Int.natCast_nonneg _)
    rw [h1]
    show (((((m / 2 ^ r : Nat) : Int).toNat &&& 1 : Nat)) : Int) = _
    rw [Int.toNat_natCast, Nat.and_one_is_mod]
  rw [e2, truD_int, Nat.testBit_eq_decide_div_mod_eq]
  congr 1
  have : m / 2 ^ r % 2 < 2 := Nat.mod_lt _ (by decide)
  by_cases h : m / 2 ^ r % 2 = 1
  · simp [h]
  · have : m / 2 ^ r % 2 = 0 := by omega
    simp [this]
theorem truthy_nats {l : List Nat} : (dNs l).py.truthy = !l.isEmpty := by
  cases l <;> simp [D.py, pys, PyData.truthy]
theorem plain_list {β : Type} {enc : β → D} {l : List β} (h : ∀ b ∈ l, (enc b).py.plain = true) : PyData.plainAll (pys (l.map enc)) = true := by
  induction l with
  | nil => rfl
  | cons z l ih => simp [pys, PyData.plainAll, h z (by simp), ih fun b hb => h b (by simp [hb])]
theorem pys_map {β : Type} {enc : β → D} {l : List β} : pys (l.map enc) = l.map fun b => (enc b).py := by
  induction l with
  | nil => rfl
  | cons z l ih => simp [pys, ih]
theorem allT_map {β : Type} {enc : β → D} {l : List β} (h1 : ∀ b ∈ l, (enc b).pl = true) (h2 : ∀ b ∈ l, (enc b).py.plain = true) (h3 : ∀ b ∈ l, fitB (enc b).py = true) : allTD (.lst (l.map enc)) = some (.bl (l.all fun b => (enc b).py.truthy)) := by
  simp only [allTD]
  rw [if_pos]
  · rw [pys_map, List.all_map]; rfl
  · rw [pls_map h1, plain_list h2, pys_map, List.all_map]
    simp only [Bool.true_and]
    exact List.all_eq_true.2 h3
theorem allT_rows {rows : List (List Nat)} (h : ∀ l ∈ rows, l.length ≤ 1000) : allTD (.lst (rows.map dNs)) = some (.bl (rows.all fun l => !l.isEmpty)) := by
  rw [allT_map (enc := dNs) (fun l _ => pls_map fun _ _ => rfl) (fun l _ => by simp only [D.py, PyData.plain]; exact plain_list fun _ _ => rfl) (fun l hl => by
    have := h l hl
    simp only [D.py, fitB, decide_eq_true_eq, DL.sizeLine_eq, pys_map, List.length_map]; omega)]
  congr 2
  induction rows with
  | nil => rfl
  | cons l rows ih => simp only [List.all_cons, truthy_nats, ih fun l hl => h l (by simp [hl])]
theorem allT_bools {β : Type} {g : β → Bool} {l : List β} : allTD (.lst (l.map fun b => .bl (g b))) = some (.bl (l.all g)) := by
  rw [allT_map (enc := fun b => D.bl (g b)) (fun _ _ => rfl) (fun _ _ => rfl) (fun _ _ => rfl)]
  rfl
theorem dedup_len : ∀ (l acc : List Int), acc.Nodup → ((l.foldl PyProof.Rows.step_dedup acc).length ≤ acc.length + l.length ∧ ((l.foldl PyProof.Rows.step_dedup acc).length = acc.length + l.length ↔ (acc ++ l).Nodup))
  | [], acc, h => ⟨by simp, by simp [h]⟩
  | a :: l, acc, h => by
    rw [List.foldl_cons]
    by_cases hm : a ∈ acc
    · have e : PyProof.Rows.step_dedup acc a = acc := by
        unfold PyProof.Rows.step_dedup
        rw [if_pos]
        exact List.any_eq_true.2 ⟨a, hm, by simp⟩
      rw [e]
      obtain ⟨h1, h2⟩ := dedup_len l acc h
      refine ⟨by simp; omega, ⟨fun e => by simp at e; omega, fun hn => ?_⟩⟩
      rw [List.nodup_append] at hn
      exact absurd rfl (hn.2.2 a hm a (by simp))
    · have e : PyProof.Rows.step_dedup acc a = acc ++ [a] := by
        unfold PyProof.Rows.step_dedup
        rw [if_neg]
        intro hx
        obtain ⟨x, hx, e⟩ := List.any_eq_true.1 hx
        have : x = a := by simpa using e
        exact hm (this ▸ hx)
      rw [e]
      have hnd : (acc ++ [a]).Nodup := by
        rw [List.nodup_append]
        exact ⟨h, by simp, fun x hx y hy e => by rw [List.mem_singleton.1 hy] at e; exact hm (e ▸ hx)⟩
      obtain ⟨h1, h2⟩ := dedup_len l (acc ++ [a]) hnd
      simp only [List.length_append, List.length_singleton, List.append_assoc, List.singleton_append, List.length_cons, List.length_nil] at h1 h2 ⊢
      exact ⟨by omega, by rw [← h2]; omega⟩
theorem lenSet_nats {l : List Nat} (h : l.length ≤ 4000) : ∃ k : Nat, lenSetD (dNs l) = some (.int k) ∧ (k = l.length ↔ l.Nodup) := by
  have e : l.map dN = (l.map fun (n : Nat) => (n : Int)).map .int := by simp
  refine ⟨((l.map fun (n : Nat) => (n : Int)).foldl PyProof.Rows.step_dedup []).length, ?_, ?_⟩
  · unfold dNs
    rw [e]
    show (intsD _).bind _ = _
    rw [intsD_map]
    simp only [Option.bind_some, List.length_map]
    rw [if_pos h]
  · have := (dedup_len (l.map fun (n : Nat) => (n : Int)) [] List.nodup_nil).2
    simp only [List.length_nil, List.length_map, Nat.zero_add, List.nil_append] at this
    rw [this]
    unfold List.Nodup
    rw [List.pairwise_map]
    exact ⟨fun h => h.imp fun h e => h (by rw [e]), fun h => h.imp fun h e => h (by omega)⟩
theorem lotsOf_succ {ts : List (Nat × Nat)} {n k : Nat} : lotsOf ts n (k + 1) = lotsOf ts n k ++ if LotB ts (bits (1 + k) n) = true then [bits (1 + k) n] else [] := by
  unfold lotsOf
  rw [List.range_succ, List.map_append, List.filter_append]
  congr 1
  by_cases h : LotB ts (bits (1 + k) n) = true
  · simp [h]
  · simp [h]
theorem lotsOf_len {ts : List (Nat × Nat)} {n k : Nat} : (lotsOf ts n k).length ≤ k := by
  unfold lotsOf
  exact Nat.le_trans (List.length_filter_le ..) (by simp)
theorem flat_len {ts : List (Nat × Nat)} {c : Nat} (h : ∀ r, (tell ts r).length ≤ c) : ∀ L : List Nat, (L.flatMap (tell ts)).length ≤ L.length * c
  | [] => by simp
  | a :: L => by
    have := flat_len h L
    have := h a
    rw [List.flatMap_cons, List.length_append, List.length_cons, Nat.succ_mul]; omega
theorem lots_ok {ts : List (Nat × Nat)} {n : Nat} (hn : n ≤ 8) (ht : TiesOk n ts) : d__law_lots [.int n, dTs ts] = .ok (.lst ((lotsOf ts n (2 ^ n - 1)).map dNs)) := by
  have hl : ts.length ≤ 64 := Nat.le_trans ht.len (Nat.mul_le_mul hn hn)
  have htell : ∀ r, (tell ts r).length ≤ 64 := fun r => by
    unfold tell
    rw [List.length_map]
    exact Nat.le_trans (List.length_filter_le ..) hl
  have h2n : 2 ^ n ≤ 2 ^ 8 := Nat.pow_le_pow_right (by decide) hn
  have h2p : 1 ≤ 2 ^ n := Nat.pow_pos (by decide)
  have h256 : (2 : Nat) ^ 8 = 256 := by decide
  refine fnP_eq rfl ?_
  unfold b__law_lots
  refine ev_seq (fun s => s = [.sh (dN n), .sh (dTs ts), .sh (.lst ((List.range n).map fun r => dNs (tell ts r))), .own (.lst []), .un, .un, .un, .un]) (Ev.of ?_) ?_
  · simp (dsimp := false)
    refine h_map (enc := dN) (List.range n) (fun r => dNs (tell ts r)) ?_ (by simp) (by simp; omega) ?_ ?_
    · simp (dsimp := false) [rng1D_nat (show n < 2 ^ 62 by omega), rngD0]
    · intro r hr
      simp (dsimp := false) [tellers_ok (ts := ts) (r := r) (by omega)]
    · simp (dsimp := false)
  rintro _ rfl
  generalize hBY : (D.lst ((List.range n).map fun r => dNs (tell ts r))) = BY
  have hBYg : ∀ a, a < n → ixD BY (.int a) = some (dNs (tell ts a)) := fun a ha => by subst hBY; exact ixD_l (by simp [ha])
  clear hBY
  have hsh : shlD (.int 1) (.int n) = some (.int ((2 ^ n : Nat) : Int)) := by
    rw [shlD_int ⟨by omega, by omega, by decide⟩]
    simp
  have hrg : rng2D (.int 1) (.int ((2 ^ n : Nat) : Int)) = some (rngD 1 (2 ^ n - 1)) := by
    rw [rng2D_int (by omega) (by omega) (by omega) (by omega)]
    congr 2
    omega
  refine Ev.of ?_
  simp (dsimp := false) only [h_sSeq, h_sFor, h_it2, h_eC, h_eBin, h_eVar, List.getElem?_cons_zero, shH_sh, hsh, hrg, smH_some]
  refine EvH.of (ev_forR (fun i s => ∃ q : Slot, s = [.sh (dN n), .sh (dTs ts), .sh BY, .own (.lst ((lotsOf ts n i).map dNs)), .un, .un, .un, q]) ?_ ?_ ?_)
  · exact ⟨_, rfl⟩
  · rintro i s hi ⟨q, rfl⟩
    have hi2 : (1 : Int) + i = ((1 + i : Nat) : Int) := by omega
    rw [hi2]
    have hm : ∀ r ∈ bits (1 + i) n, r < n := fun r hr => by simpa using (List.mem_filter.1 hr).1
    have hbl : (bits (1 + i) n).length ≤ n := Nat.le_trans (List.length_filter_le ..) (by simp)
    generalize hL : bits (1 + i) n = L at hm hbl
    generalize hmm : 1 + i = m at hL
    refine ev_seq (fun s => s = [.sh (dN n), .sh (dTs ts), .sh BY, .own (.lst ((lotsOf ts n i).map dNs)), .un, .sh (dN m), .un, q]) (Ev.of ?_) ?_
    · simp (dsimp := false)
    rintro _ rfl
    refine ev_seq (fun s => s = [.sh (dN n), .sh (dTs ts), .sh BY, .own (.lst ((lotsOf ts n i).map dNs)), .un, .sh (dN m), .sh (dNs L), q]) (Ev.of ?_) ?_
    · simp (dsimp := false)
      refine h_comp (enc := dN) (List.range n) (fun r => m.testBit r) dN ?_ (by simp) (by simp; omega) ?_ ?_
      · simp (dsimp := false) [rng1D_nat (show n < 2 ^ 62 by omega), rngD0]
      · intro r hr
        have e1 : shrD (dN m) (dN r) = some (.int ((m : Int) / 2 ^ r)) := by
          rw [shrD_int (by omega), Int.toNat_natCast]
        simp (dsimp := false) [e1, bit_test, -truD_int]
      · unfold bits at hL
        simp (dsimp := false) [hL]
    rintro _ rfl
    have hby : ∀ (q : Slot) (s : Sl) (Q : D → Sl → Prop) (h : Hd Q), s = [.sh (dN n), .sh (dTs ts), .sh BY, .own (.lst ((lotsOf ts n i).map dNs)), .un, .sh (dN m), .sh (dNs L), q] → Q (.lst ((L.map (tell ts)).map dNs)) s → EvH (eComp (itOf seqItems (eVar 6)) (tgN 4) (ret true) (eBin ixD (eVar 2) (eVar 4)) [4]) s Q h := by
      rintro q s Q h rfl hQ
      refine h_map (enc := dN) L (fun r => dNs (tell ts r)) ?_ (by simp) (by omega) ?_ ?_
      · simp (dsimp := false)
      · intro r hr
        simp (dsimp := false) [hBYg r (hm r hr)]
      · rw [List.map_map] at hQ; exact hQ
    have hall : allTD (.lst ((L.map (tell ts)).map dNs)) = some (.bl (L.all fun r => !(tell ts r).isEmpty)) := by
      rw [allT_rows fun l hl => by
        obtain ⟨r, _, rfl⟩ := List.mem_map.1 hl
        have := htell r; omega]
      rw [List.all_map]; rfl
    have hfl : (L.flatMap (tell ts)).length ≤ 512 := by
      have := flat_len htell L
      have : L.length * 64 ≤ 8 * 64 := Nat.mul_le_mul_right _ (by omega)
      omega
    have hjo : d__law_joined [.lst ((L.map (tell ts)).map dNs)] = .ok (dNs (L.flatMap (tell ts))) := by
      rw [joined_ok (by rw [← List.flatMap_def]; omega), ← List.flatMap_def]
    have fin : ∀ b : Bool, LotB ts L = b → (lotsOf ts n (i + 1)) = lotsOf ts n i ++ if b = true then [L] else [] := fun b hb => by rw [lotsOf_succ, hmm, hL, hb]
    have hlen := lotsOf_len (ts := ts) (n := n) (k := i)
    have hLB : LotB ts L = (L.all (fun r => !(tell ts r).isEmpty) && (decide ((L.flatMap (tell ts)).Nodup) && L.all fun r => decide (r ∈ L.flatMap (tell ts)))) := rfl
    generalize L.flatMap (tell ts) = F at hLB hjo hfl
    generalize (L.all fun r => !(tell ts r).isEmpty) = c1 at hLB hall
    generalize hFX : lotsOf ts n i = X at hlen fin
    rw [hFX] at hby
    refine Ev.of ?_
    simp (dsimp := false) only [h_sIf, h_tstB, h_eUn]
    refine hby _ _ _ _ rfl ?_
    simp (dsimp := false) only [hall, smH_some, truD_bl]
    cases c1 with
    | false =>
      simp at hLB
      have := fin false hLB
      simp (dsimp := false) [this]
    | true =>
      simp (dsimp := false) only [brH_true, h_sSeq, h_sAsg, h_eCall, h_aCons]
      refine hby _ _ _ _ rfl ?_
      simp (dsimp := false) only [h_aNil, List.append_nil, hjo, clH_ok, List.length_cons, List.length_nil, List.set_cons_succ, List.set_cons_zero]
      refine .mk (by decide) ?_
      obtain ⟨k, hk, hk2⟩ := lenSet_nats (l := F) (by omega)
      simp (dsimp := false) [hk]
      refine BrH.both (fun h2 => ?_) fun h2 => ?_
      · have h2' : F.Nodup := hk2.1 (by simpa using h2)
        simp (dsimp := false) only [h_tstB, h_eUn]
        refine h_map (enc := dN) L (fun r => .bl (decide (r ∈ F))) ?_ (by simp) (by omega) ?_ ?_
        · simp (dsimp := false)
        · intro r hr
          simp (dsimp := false) [in_nats]
        · simp (dsimp := false) only [allT_bools, smH_some, truD_bl]
          rw [decide_eq_true h2'] at hLB
          cases h3 : (L.all fun r => decide (r ∈ F)) with
          | true =>
            rw [h3] at hLB
            have := fin true hLB
            simp (dsimp := false) [appD_lst (ds := X.map dNs) (by simp; omega), this]
          | false =>
            rw [h3] at hLB
            have := fin false hLB
            simp (dsimp := false) [this]
      · have h2' : ¬ F.Nodup := fun h => by have := hk2.2 h; simp [this] at h2
        rw [decide_eq_false h2'] at hLB
        have := fin false hLB
        simp (dsimp := false) [this]
  · rintro s ⟨q, rfl⟩
    simp (dsimp := false)
end K47

/-! ## K47h3 -/
namespace DL
open PySem L2
theorem h_sAug {s : Sl} {g : D → D → Option D} {i : Nat} {f : M D} {Q : Fl → Sl → Prop} {h : Hd Q} : EvH (sAug g i f) s Q h ↔ ShH s[i]? (fun x => EvH f s (fun y s1 => SmH (g x y) (fun z => GdH (i < s1.length) (Q .nx (s1.set i (.sh z))) ⟨⟩) ⟨⟩) ⟨⟩) ⟨⟩ := by
  unfold sAug
  rw [h_bnd, h_eVar]
  constructor
  · rintro ⟨x, e, q⟩
    refine ⟨x, e, Ev.mono (h_bnd.1 q) fun y s1 r => ?_⟩
    obtain ⟨z, e2, q2⟩ := h_opt.1 (h_bnd.1 r)
    exact ⟨z, e2, h_setS.1 q2⟩
  · rintro ⟨x, e, q⟩
    refine ⟨x, e, h_bnd.2 (Ev.mono q fun y s1 r => ?_)⟩
    obtain ⟨z, e2, q2⟩ := r
    exact h_bnd.2 (h_opt.2 ⟨z, e2, h_setS.2 q2⟩)
theorem h_eComp2 {s : Sl} {fi : M (List D)} {tg : D → M Fl} {ct : M Bool} {fi1 : M (List D)} {tg1 : D → M Fl} {ct1 : M Bool} {fe : M D} {vs vs1 : List Nat} {Q : D → Sl → Prop} {h : Hd Q} : EvH (eComp2 fi tg ct fi1 tg1 ct1 fe vs vs1) s Q h ↔ EvH fi s (fun ds s1 => GdH ((vs.all fun v => notOwn (s1.getD v .un)) = true) (EvH (compF tg ct (act2 fi1 tg1 ct1 fe vs1) vs ds (.lst [])) (clr vs s1) (fun a s' => Q a (rst s1 vs s')) ⟨⟩) ⟨⟩) ⟨⟩ := h_eCompG
theorem h_eCompD {s : Sl} {fi : M (List D)} {tg : D → M Fl} {ct : M Bool} {fk fv : M D} {vs : List Nat} {Q : D → Sl → Prop} {h : Hd Q} : EvH (eCompD fi tg ct fk fv vs) s Q h ↔ EvH fi s (fun ds s1 => GdH ((vs.all fun v => notOwn (s1.getD v .un)) = true) (EvH (compF tg ct (actD fk fv) vs ds (.dct [])) (clr vs s1) (fun a s' => Q a (rst s1 vs s')) ⟨⟩) ⟨⟩) ⟨⟩ := h_eCompG
theorem ev_noOwn {vs : List Nat} {s : Sl} {Q : Unit → Sl → Prop} (h : (vs.all fun v => notOwn (s.getD v .un)) = true) (q : Q () s) : Ev (noOwn vs) s Q := by
  rw [ev_iff]
  exact ⟨(), s, by unfold noOwn; rw [if_pos h], q⟩
theorem bitOr_nat {a b : Nat} : Builtin.bitOr (a : Int) (b : Int) = ((a ||| b : Nat) : Int) := by
  unfold Builtin.bitOr Builtin.bitNot Builtin.bitAnd
  have h1 : decide ((0 : Int) ≤ -(a : Int) - 1) = false := decide_eq_false (by omega)
  have h2 : decide ((0 : Int) ≤ -(b : Int) - 1) = false := decide_eq_false (by omega)
  rw [h1, h2]
  show -(Builtin.bitNot (((Builtin.bitNot (-(a : Int) - 1)).toNat ||| (Builtin.bitNot (-(b : Int) - 1)).toNat : Nat) : Int)) - 1 = _
  unfold Builtin.bitNot
  have e1 : (-(-(a : Int) - 1) - 1).toNat = a := by omega
  have e2 : (-(-(b : Int) - 1) - 1).toNat = b := by omega
  rw [e1, e2]
  omega
theorem bitAnd_nat {a b : Nat} : Builtin.bitAnd (a : Int) (b : Int) = ((a &&& b : Nat) : Int) := by
  unfold Builtin.bitAnd
  have h1 : decide ((0 : Int) ≤ (a : Int)) = true := decide_eq_true (by omega)
  have h2 : decide ((0 : Int) ≤ (b : Int)) = true := decide_eq_true (by omega)
  rw [h1, h2]
  show (((a : Int).toNat &&& (b : Int).toNat : Nat) : Int) = _
  rw [Int.toNat_natCast, Int.toNat_natCast]
theorem bitAndNot_nat {a b : Nat} : Builtin.bitAnd (a : Int) (Builtin.bitNot (b : Int)) = (a : Int) - ((a &&& b : Nat) : Int) := by
  unfold Builtin.bitAnd
  have h1 : decide ((0 : Int) ≤ (a : Int)) = true := decide_eq_true (by omega)
  have h2 : decide ((0 : Int) ≤ Builtin.bitNot (b : Int)) = false := decide_eq_false (by unfold Builtin.bitNot; omega)
  rw [h1, h2]
  show (a : Int) - (((a : Int).toNat &&& (Builtin.bitNot (Builtin.bitNot (b : Int))).toNat : Nat) : Int) = _
  have e : (Builtin.bitNot (Builtin.bitNot (b : Int))).toNat = b := by unfold Builtin.bitNot; omega
  rw [e, Int.toNat_natCast]
end DL
namespace K47
open PySem L2 DL
/-! ### tellers as bits -/
theorem bits_ext {m a b : Nat} (h : m < 2 ^ a) (hab : a ≤ b) : bits m a = bits m b := by
  unfold bits
  have e : b = a + (b - a) := by omega
  rw [e, List.range_add, List.filter_append]
  have : ((List.range (b - a)).map (a + ·)).filter (fun r => m.testBit r) = [] := by
    rw [List.filter_eq_nil_iff]
    intro r hr
    obtain ⟨k, _, rfl⟩ := List.mem_map.1 hr
    rw [Nat.testBit_lt_two_pow (Nat.lt_of_lt_of_le h (Nat.pow_le_pow_right (by decide) (Nat.le_add_right ..)))]
    simp
  rw [this, List.append_nil]
theorem intBits_lt {m n : Nat} (h : m < 2 ^ n) : Builtin.Int.intBits (m : Int) ≤ n ∧ m < 2 ^ Builtin.Int.intBits (m : Int) := by
  unfold Builtin.Int.intBits
  by_cases h0 : m = 0
  · subst h0; simp
  · have e : (((m : Int) == 0) = false) := by simp; omega
    rw [e]
    simp only [Bool.false_eq_true, if_false, Int.natAbs_natCast]
    exact ⟨(Nat.log2_lt h0).2 h, Nat.lt_log2_self⟩
theorem members_ok {m n : Nat} (h : m < 2 ^ n) (hn : n ≤ 1000) : d_members [.int m] = .ok (dNs (bits m n)) := by
  obtain ⟨h1, h2⟩ := intBits_lt h
  refine fnP_eq rfl ?_
  unfold b_members
  refine Ev.of ?_
  simp (dsimp := false)
  refine h_comp (enc := dN) (List.range (Builtin.Int.intBits (m : Int))) (fun r => m.testBit r) dN ?_ (by simp) (by simp; omega) ?_ ?_
  · simp (dsimp := false) [rng1D_nat (show Builtin.Int.intBits (m : Int) < 2 ^ 62 by omega), rngD0]
  · intro r hr
    have e1 : shrD (.int m) (dN r) = some (.int ((m : Int) / 2 ^ r)) := by
      rw [shrD_int (by omega), Int.toNat_natCast]
    simp (dsimp := false) [e1, bit_test, -truD_int]
  · rw [← bits_ext h2 h1]
    simp (dsimp := false) [bits]
def maskOf (l : List (Nat × Nat)) (r : Nat) : Nat := l.foldl (fun acc p => if p.2 = r then acc ||| 2 ^ p.1 else acc) 0
theorem maskOf_snoc {l : List (Nat × Nat)} {p : Nat × Nat} {r : Nat} : maskOf (l ++ [p]) r = if p.2 = r then maskOf l r ||| 2 ^ p.1 else maskOf l r := by simp [maskOf, List.foldl_append]
theorem mask_bit {l : List (Nat × Nat)} {r s : Nat} : (maskOf l r).testBit s = decide ((s, r) ∈ l) := by
  have key : ∀ k : Nat, ∀ l : List (Nat × Nat), l.length = k → (maskOf l r).testBit s = decide ((s, r) ∈ l) := by
    intro k
    induction k with
    | zero => intro l h; rw [List.length_eq_zero_iff.1 h]; simp [maskOf]
    | succ k ih =>
      intro l h
      rcases List.eq_nil_or_concat l with rfl | ⟨l', p, rfl⟩
      · cases h
      · rw [List.concat_eq_append] at h ⊢
        have ih' := ih l' (by simpa using h)
        obtain ⟨a, b⟩ := p
        rw [maskOf_snoc]
        by_cases hb : b = r
        · subst hb
          simp only [if_true, Nat.testBit_or, ih', Nat.testBit_two_pow]
          by_cases h1 : (s, b) ∈ l' <;> by_cases h2 : a = s <;> simp [h1, h2, eq_comm]
          intro e; exact absurd e.symm h2
        · simp only [hb, if_false, ih']
          have : (s, r) ≠ (a, b) := fun e => hb (by cases e; rfl)
          simp [this]
  exact key _ l rfl
theorem mask_lt {l : List (Nat × Nat)} {n r : Nat} (h : ∀ p ∈ l, p.1 < n) : maskOf l r < 2 ^ n := Nat.lt_pow_two_of_testBit _ fun i hi => by
  rw [mask_bit]
  exact decide_eq_false fun hm => by have := h _ hm; simp at this; omega
abbrev nm (zs : List Str) (p : Nat × Nat) : D := .tup [.str (zs.getD p.1 Str.empty), .str (zs.getD p.2 Str.empty)]
abbrev dMasks (l : List (Nat × Nat)) (n : Nat) : D := .tup ((List.range n).map fun r => dN (maskOf l r))
theorem getA_range {zs : List Str} {n a : Nat} (hn : zs.Nodup) (hl : n ≤ zs.length) (ha : a < n) : getA ((List.range n).map fun i => (.inr (zs.getD i Str.empty), dN i)) (.inr (zs.getD a Str.empty)) = some (dN a) := by
  unfold getA
  rw [List.find?_map]
  have : (List.range n).find? ((fun kv : Key × D => decide (kv.1 = .inr (zs.getD a Str.empty))) ∘ fun i => (.inr (zs.getD i Str.empty), dN i)) = some a := by
    rw [List.find?_eq_some_iff_getElem]
    refine ⟨by simp, a, by simpa using ha, by simp, fun j hj => ?_⟩
    simp only [List.getElem_range, Function.comp, Bool.not_eq_true', decide_eq_false_iff_not]
    intro e
    have e2 : zs.getD j Str.empty = zs.getD a Str.empty := by simpa using e
    have : zs[j]? = zs[a]? := by
      have h1 : j < zs.length := by omega
      have h2 : a < zs.length := by omega
      simp only [List.getD_eq_getElem?_getD, List.getElem?_eq_getElem h1, List.getElem?_eq_getElem h2, Option.getD_some] at e2
      rw [List.getElem?_eq_getElem h1, List.getElem?_eq_getElem h2, e2]
    have := (List.getElem?_inj (by omega) hn).1 this
    omega
  rw [this]; rfl
theorem getD_inj {zs : List Str} {i j : Nat} (hn : zs.Nodup) (hi : i < zs.length) (hj : j < zs.length) (e : zs.getD i Str.empty = zs.getD j Str.empty) : i = j := by
  refine (List.getElem?_inj hi hn).1 ?_
  simp only [List.getD_eq_getElem?_getD, List.getElem?_eq_getElem hi, List.getElem?_eq_getElem hj, Option.getD_some] at e
  rw [List.getElem?_eq_getElem hi, List.getElem?_eq_getElem hj, e]
theorem set_range {n b : Nat} {f : Nat → D} {v : D} : ((List.range n).map f).set b v = (List.range n).map fun r => if r = b then v else f r := by
  apply List.ext_getElem?
  intro j
  rw [List.getElem?_set]
  by_cases h : b = j
  · subst h
    by_cases h2 : b < n
    · simp [h2]
    · simp [h2]
  · rw [if_neg h]
    simp only [List.getElem?_map]
    by_cases h2 : j < n
    · simp [h2, Ne.symm h]
    · simp [h2]
def PlD (zs : List Str) (i : Nat) : D := .dct ((List.range i).map fun i => (.inr (zs.getD i Str.empty), dN i))
theorem teller_bits_ok {zs : List Str} {l : List (Nat × Nat)} {n : Nat} {R T : D} (hz : NamesOk n zs) (hn : n ≤ 12) (hl : ∀ p ∈ l, p.1 < n ∧ p.2 < n) (hR : R = .tup (zs.map .str)) (hT : seqItems T = some (l.map (nm zs))) : d_teller_bits [R, T] = .ok (dMasks l n) := by
  subst hR
  have hzl := hz.len
  refine fnP_eq rfl ?_
  unfold b_teller_bits
  refine ev_seq (fun s => s = [.sh (.tup (zs.map .str)), .sh T, .sh (PlD zs n), .un, .un, .un, .un, .un]) (Ev.of ?_) ?_
  · simp (dsimp := false) only [h_sAsg]
    rw [h_eCompD]
    simp (dsimp := false) [enuD]
    refine EvH.of (ev_compF (enc := fun (i : Nat) => D.tup [.int i, (zs[i]?.map D.str).getD .non]) (xs := List.range zs.length) (fun pre post x s => s = [.sh (.tup (zs.map .str)), .sh T, .un, .un, .un, .un, .un, .un] ∧ ∃ i, x = PlD zs i ∧ i = pre.length ∧ pre ++ post = List.range zs.length) ?_ ?_ ?_)
    · exact ⟨rfl, 0, rfl, rfl, rfl⟩
    · rintro pre b post x s e ⟨rfl, i, rfl, hi, _⟩
      have hb : b = i := by
        have := congrArg (fun l => l[pre.length]?) e
        simp at this
        by_cases z : pre.length < zs.length
        · rw [List.getElem?_range z] at this; simp at this; omega
        · have := congrArg List.length e; simp at this; omega
      subst hb
      have hbl : b < zs.length := by have := congrArg List.length e; simp at this; omega
      have hput : putD (.str (zs.getD b Str.empty)) (dN b) (PlD zs b) = some (PlD zs (b + 1)) := by
        unfold PlD
        simp only [putD, keyD, Option.bind_some]
        rw [if_pos (by rw [DL.sizeLine_eq]; simp; omega), putA_map (l := List.range b) (k := fun i => zs.getD i Str.empty) (v := dN) (fun c hc e => by
          have hc' : c < b := by simpa using hc
          have := getD_inj hz.nd (by omega) hbl e
          omega), List.range_succ, List.map_append]
        rfl
      have e2 : (zs[b]?.map D.str).getD .non = .str (zs.getD b Str.empty) := by simp [hbl]
      refine Ev.of ?_
      rw [e2]
      generalize (D.str (zs.getD b Str.empty)) = kz at hput
      simp (dsimp := false)
      refine Ev.of ?_
      simp (dsimp := false)
      refine Ev.of ?_
      unfold actD
      simp (dsimp := false) [hput]
      exact ⟨b + 1, rfl, by omega, e⟩
    · rintro x s ⟨rfl, i, rfl, hi, he⟩
      have : i = n := by have := congrArg List.length he; simp at this hi; omega
      subst this
      simp (dsimp := false)
  rintro _ rfl
  have hget : ∀ a, a < n → dgetD (PlD zs n) (.str (zs.getD a Str.empty)) = some (dN a) := fun a ha => by
    unfold PlD
    simp only [dgetD, keyD, Option.bind_some]
    exact getA_range hz.nd (by omega) ha
  generalize PlD zs n = PL at hget
  refine ev_seq (fun s => s = [.sh (.tup (zs.map .str)), .sh T, .sh PL, .un, .un, .own (.lst ((List.range n).map fun r => dN (maskOf [] r))), .un, .un]) (Ev.of ?_) ?_
  · have e : repL (.lst [.int 0]) (.int (zs.length : Nat)) = some (.lst (List.replicate zs.length (.int 0))) := repL_one (by omega)
    simp (dsimp := false) [e]
    rw [hzl]
    apply List.ext_getElem?
    intro j
    by_cases hj : j < n
    · simp [hj, maskOf]
    · simp [hj]
  rintro _ rfl
  refine Ev.of ?_
  simp (dsimp := false) [hT]
  refine EvH.of (ev_for (enc := nm zs) (fun pre post s => s = [.sh (.tup (zs.map .str)), .sh T, .sh PL, .un, .un, .own (.lst ((List.range n).map fun r => dN (maskOf pre r))), .un, .un]) ?_ ?_ ?_)
  · simp
  · rintro pre ⟨a, b⟩ post s e rfl
    obtain ⟨ha, hb⟩ := hl (a, b) (by rw [← e]; simp)
    have g1 := hget a ha
    have g2 := hget b hb
    have hix : ixL (dN b) (.lst ((List.range n).map fun r => dN (maskOf pre r))) = some (dN (maskOf pre b)) := ixL_nat (by simp [hb])
    have hshl : shlD (.int 1) (dN a) = some (.int ((2 ^ a : Nat) : Int)) := by
      rw [shlD_int ⟨by omega, by omega, by decide⟩]; simp
    have hor : (i2 fun a b => D.int (Builtin.bitOr a b)) (dN (maskOf pre b)) (.int ((2 ^ a : Nat) : Int)) = some (dN (maskOf pre b ||| 2 ^ a)) := by
      show some (D.int _) = _
      rw [bitOr_nat]
    have hset : setLD (dN (maskOf pre b ||| 2 ^ a)) (dN b) (.lst ((List.range n).map fun r => dN (maskOf pre r))) = some (.non, .lst ((List.range n).map fun r => dN (maskOf (pre ++ [(a, b)]) r))) := by
      rw [setLD_nat (by simpa using hb), set_range]
      congr 3
      refine List.map_congr_left fun r hr => ?_
      rw [maskOf_snoc]
      by_cases h : r = b
      · subst h; simp
      · simp [h, Ne.symm h]
    generalize (D.lst ((List.range n).map fun r => dN (maskOf pre r))) = ML at hix hset
    generalize (D.lst ((List.range n).map fun r => dN (maskOf (pre ++ [(a, b)]) r))) = ML' at hset
    generalize dN (maskOf pre b) = old at hix hor
    generalize dN (maskOf pre b ||| 2 ^ a) = new at hor hset
    generalize D.int ((2 ^ a : Nat) : Int) = pw at hshl hor
    have hlst : isL ML = true := by
      cases ML <;> first | rfl | (simp [ixL, dN] at hix)
    refine Ev.of ?_
    simp (dsimp := false) only [nm]
    generalize (D.str (zs.getD a Str.empty)) = ka at g1
    generalize (D.str (zs.getD b Str.empty)) = kb at g2
    simp (dsimp := false) [g1, g2, hix, hshl, hor, hset, hlst]
  · rintro s rfl
    simp (dsimp := false)
end K47

/-! ## K47h4 -/
namespace DL
open PySem L2
section
variable {s : Sl} {Q : List D × Fl → Sl → Prop} {h : Hd Q}
@[simp] theorem h_yP {f : M Fl} : EvH (yP f) s Q h ↔ EvH f s (fun fl s1 => Q ([], fl) s1) ⟨⟩ := ev_yP
@[simp] theorem h_y0 : EvH y0 s Q h ↔ Q ([], .nx) s := ev_y0
@[simp] theorem h_ySeq {f g : MY} : EvH (ySeq f g) s Q h ↔ EvH f s (fun r s1 => EvH (yK g r.1 r.2) s1 Q ⟨⟩) ⟨⟩ := ev_ySeq
@[simp] theorem h_yK_nx {g : MY} {os : List D} : EvH (yK g os .nx) s Q h ↔ EvH g s (fun r s1 => Q (os ++ r.1, r.2) s1) ⟨⟩ := ev_yK_nx
@[simp] theorem h_yYield {e : M D} : EvH (yYield e) s Q h ↔ EvH e s (fun d s1 => Q ([d], .nx) s1) ⟨⟩ := ev_yYield
end
end DL
namespace K47
open PySem L2 DL
/-! ### lots, told by bits -/
def LotP (ts : List (Nat × Nat)) (L : List Nat) : Prop := (∀ r ∈ L, ∃ s, (s, r) ∈ ts) ∧ (∀ r ∈ L, ∀ r' ∈ L, r ≠ r' → ∀ s, ¬ ((s, r) ∈ ts ∧ (s, r') ∈ ts)) ∧ ∀ r ∈ L, ∃ r' ∈ L, (r, r') ∈ ts
theorem tell_nd {ts : List (Nat × Nat)} (h : ts.Nodup) (r : Nat) : (tell ts r).Nodup := by
  unfold tell List.Nodup
  rw [List.pairwise_map]
  refine List.Pairwise.imp_of_mem ?_ (h.filter _)
  intro a b ha hb hne e
  simp only [List.mem_filter, decide_eq_true_eq] at ha hb
  exact hne (Prod.ext e (ha.2.trans hb.2.symm))
theorem flat_nd {ts : List (Nat × Nat)} (h : ts.Nodup) : ∀ {L : List Nat}, L.Nodup → ((L.flatMap (tell ts)).Nodup ↔ ∀ r ∈ L, ∀ r' ∈ L, r ≠ r' → ∀ s, ¬ ((s, r) ∈ ts ∧ (s, r') ∈ ts))
  | [], _ => by simp
  | a :: L, hL => by
    rw [List.nodup_cons] at hL
    rw [List.flatMap_cons, List.nodup_append, flat_nd h hL.2]
    constructor
    · rintro ⟨_, h2, h3⟩ r hr r' hr' hne s ⟨h4, h5⟩
      rcases List.mem_cons.1 hr with e1 | hr1 <;> rcases List.mem_cons.1 hr' with e2 | hr2
      · exact hne (e1.trans e2.symm)
      · exact h3 s (mem_tell.2 (e1 ▸ h4)) s (List.mem_flatMap.2 ⟨r', hr2, mem_tell.2 h5⟩) rfl
      · exact h3 s (mem_tell.2 (e2 ▸ h5)) s (List.mem_flatMap.2 ⟨r, hr1, mem_tell.2 h4⟩) rfl
      · exact h2 r hr1 r' hr2 hne s ⟨h4, h5⟩
    · intro H
      refine ⟨tell_nd h a, fun r hr r' hr' => H r (by simp [hr]) r' (by simp [hr']), fun s hs t ht e => ?_⟩
      subst e
      obtain ⟨r, hr, hm⟩ := List.mem_flatMap.1 ht
      exact H a (by simp) r (by simp [hr]) (fun e => hL.1 (e ▸ hr)) s ⟨mem_tell.1 hs, mem_tell.1 hm⟩
theorem lotB_iff {ts : List (Nat × Nat)} {L : List Nat} (h : ts.Nodup) (hL : L.Nodup) : LotB ts L = true ↔ LotP ts L := by
  unfold LotB LotP
  rw [Bool.and_eq_true, Bool.and_eq_true, decide_eq_true_eq, flat_nd h hL, List.all_eq_true, List.all_eq_true]
  refine and_congr ?_ (and_congr Iff.rfl ?_)
  · refine forall_congr' fun r => imp_congr Iff.rfl ?_
    simp only [Bool.not_eq_true', List.isEmpty_eq_false_iff_exists_mem, mem_tell]
  · refine forall_congr' fun r => imp_congr Iff.rfl ?_
    simp only [decide_eq_true_eq, List.mem_flatMap, mem_tell]
theorem bits_nd {m n : Nat} : (bits m n).Nodup := List.nodup_range.filter _
theorem mem_bits {m n r : Nat} : r ∈ bits m n ↔ r < n ∧ m.testBit r = true := by simp [bits]
/-- the same ties -/
def Same (l ts : List (Nat × Nat)) : Prop := ∀ p, p ∈ l ↔ p ∈ ts
theorem masks_same {l ts : List (Nat × Nat)} (h : Same l ts) (r : Nat) : maskOf l r = maskOf ts r := Nat.eq_of_testBit_eq fun i => by
  rw [mask_bit, mask_bit]
  exact decide_eq_decide.2 (h (i, r))
theorem and_zero {a b : Nat} : a &&& b = 0 ↔ ∀ s, ¬ (a.testBit s = true ∧ b.testBit s = true) := by
  constructor
  · intro h s ⟨h1, h2⟩
    have := congrArg (fun x => x.testBit s) h
    simp [h1, h2] at this
  · intro h
    refine Nat.eq_of_testBit_eq fun s => ?_
    rw [Nat.testBit_and, Nat.zero_testBit]
    cases h1 : a.testBit s <;> cases h2 : b.testBit s <;> first | rfl | exact absurd ⟨h1, h2⟩ (h s)
theorem nat_zero {a : Nat} : a = 0 ↔ ∀ s, ¬ a.testBit s = true := by
  constructor
  · rintro rfl s; simp
  · intro h
    refine Nat.eq_of_testBit_eq fun s => ?_
    rw [Nat.zero_testBit]
    simpa using h s
theorem is_lot_ok {ts : List (Nat × Nat)} {n m : Nat} (ht : TiesOk n ts) (hn : n ≤ 12) (hm : m < 2 ^ n) (h0 : m ≠ 0) : d_is_lot [dMasks ts n, .int m] = .ok (.bl (LotB ts (bits m n))) := by
  have hix : ∀ r, r < n → ixD (dMasks ts n) (.int r) = some (dN (maskOf ts r)) := fun r hr => ixD_t (by simp [hr])
  have hL : ∀ r ∈ bits m n, r < n := fun r hr => (mem_bits.1 hr).1
  have hiff := lotB_iff ht.nd (L := bits m n) bits_nd
  refine fnP_eq rfl ?_
  unfold b_is_lot
  refine Ev.of ?_
  simp (dsimp := false) [members_ok hm (by omega)]
  generalize dMasks ts n = B at hix
  generalize hLL : bits m n = L at hL hiff
  have hbad : ∀ b : Bool, ¬ LotP ts L → b = false → b = LotB ts L := fun b h e => by
    subst e
    cases h2 : LotB ts L with
    | false => rfl
    | true => exact absurd (hiff.1 h2) h
  refine EvH.of (ev_for (enc := dN) (fun pre post s => ∃ u : Nat, s = [.sh B, .sh (.int m), .sh (dN u), .un] ∧ (∀ s, u.testBit s = true ↔ ∃ r ∈ pre, (s, r) ∈ ts) ∧ (∀ r ∈ pre, ∃ s, (s, r) ∈ ts) ∧ (∀ r ∈ pre, ∀ r' ∈ pre, r ≠ r' → ∀ s, ¬ ((s, r) ∈ ts ∧ (s, r') ∈ ts))) ?_ ?_ ?_)
  · exact ⟨0, rfl, by simp, by simp, by simp⟩
  · rintro pre r post s e ⟨u, rfl, hu, h1, h2⟩
    have hr : r ∈ L := by rw [← e]; simp
    have hpre : ∀ x ∈ pre, x ∈ L := fun x hx => by rw [← e]; simp [hx]
    have hrp : r ∉ pre := by
      have hnd : L.Nodup := by rw [← hLL]; exact bits_nd
      rw [← e] at hnd
      rw [List.nodup_append] at hnd
      exact fun hm => hnd.2.2 r hm r (by simp) rfl
    have e1 := hix r (hL r hr)
    have e2 : eqD (dN (maskOf ts r)) (.int 0) = some (.bl (decide (maskOf ts r = 0))) := by
      have := eqD_int (a := (maskOf ts r : Int)) (b := ((0 : Nat) : Int))
      rw [beq_cast] at this
      exact this
    have e3 : truD (.int (Builtin.bitAnd (maskOf ts r : Int) (u : Int))) = some (!decide (maskOf ts r &&& u = 0)) := by
      rw [bitAnd_nat, truD_int]
      congr 1
      by_cases h : maskOf ts r &&& u = 0
      · rw [h]; simp
      · simp [h]
    have e4 : (i2 fun a b => D.int (Builtin.bitOr a b)) (dN u) (dN (maskOf ts r)) = some (dN (u ||| maskOf ts r)) := by
      show some (D.int _) = _
      rw [bitOr_nat]
    have hz : maskOf ts r = 0 ↔ ¬ ∃ s, (s, r) ∈ ts := by
      rw [nat_zero]
      simp only [mask_bit, decide_eq_true_eq, not_exists]
    have hd : maskOf ts r &&& u = 0 ↔ ∀ s, ¬ ((s, r) ∈ ts ∧ ∃ r' ∈ pre, (s, r') ∈ ts) := by
      rw [and_zero]
      simp only [mask_bit, decide_eq_true_eq, hu]
    refine ev_seq (fun s => s = [.sh B, .sh (.int m), .sh (dN u), .sh (dN r)]) (Ev.of ?_) ?_
    · simp (dsimp := false)
    rintro _ rfl
    refine Ev.of ?_
    simp (dsimp := false) only [h_sSeq, h_sIf, h_bOr, h_tstB, h_eBin, h_eVar, h_eC, List.getElem?_cons_succ, List.getElem?_cons_zero, shH_sh, e1, smH_some, e2, asBl_bl]
    by_cases c1 : maskOf ts r = 0
    · rw [decide_eq_true c1]
      simp (dsimp := false)
      exact (hbad false (fun hP => hz.1 c1 (hP.1 r hr)) rfl).symm
    · rw [decide_eq_false c1]
      simp (dsimp := false) only [brH_false, h_tstB, h_eBin, h_eVar, List.getElem?_cons_succ, List.getElem?_cons_zero, shH_sh, e1, smH_some, bandD_int, e3]
      by_cases c2 : maskOf ts r &&& u = 0
      · rw [decide_eq_true c2]
        generalize hU : u ||| maskOf ts r = U at e4
        simp (dsimp := false) [h_sAug, e1, e4]
        have c2' := hd.1 c2
        refine ⟨U, rfl, fun s => ?_, fun x hx => ?_, fun x hx y hy hne s => ?_⟩
        · rw [← hU, Nat.testBit_or, mask_bit, Bool.or_eq_true, hu, decide_eq_true_eq]
        · rcases hx with hx | rfl
          · exact h1 x hx
          · exact Classical.byContradiction fun h => c1 (hz.2 h)
        · rcases hx with hx | rfl <;> rcases hy with hy | rfl
          · exact fun h4 h5 => h2 x hx y hy hne s ⟨h4, h5⟩
          · exact fun h4 h5 => c2' s ⟨h5, x, hx, h4⟩
          · exact fun h4 h5 => c2' s ⟨h4, y, hy, h5⟩
          · exact absurd rfl hne
      · rw [decide_eq_false c2]
        simp (dsimp := false)
        refine (hbad false (fun hP => c2 (hd.2 fun s => ?_)) rfl).symm
        rintro ⟨h3, r', h4, h5⟩
        exact hP.2.1 r hr r' (hpre r' h4) (fun e => hrp (e ▸ h4)) s ⟨h3, h5⟩
  · rintro s ⟨u, rfl, hu, h1, h2⟩
    have e5 : neD (.int m) (.int 0) = some (.bl true) := by
      have := neD_int (a := (m : Int)) (b := ((0 : Nat) : Int))
      rw [beq_cast, decide_eq_false h0] at this
      exact this
    have e6 : eqD (.int (Builtin.bitAnd (m : Int) (Builtin.bitNot (u : Int)))) (.int 0) = some (.bl (LotB ts L)) := by
      rw [eqD_int, bitAndNot_nat]
      congr 2
      have key : m &&& u = m ↔ ∀ r ∈ L, ∃ r' ∈ L, (r, r') ∈ ts := by
        have hL2 : ∀ r, r ∈ L ↔ m.testBit r = true := fun r => by
          rw [← hLL, mem_bits]
          constructor
          · exact fun h => h.2
          · intro h
            refine ⟨?_, h⟩
            by_cases hr : r < n
            · exact hr
            · rw [Nat.testBit_lt_two_pow (Nat.lt_of_lt_of_le hm (Nat.pow_le_pow_right (by decide) (by omega)))] at h
              cases h
        constructor
        · intro h r hr
          have := congrArg (fun x => x.testBit r) h
          simp only [Nat.testBit_and, (hL2 r).1 hr, Bool.true_and] at this
          exact (hu r).1 this
        · intro h
          refine Nat.eq_of_testBit_eq fun r => ?_
          rw [Nat.testBit_and]
          cases hb : m.testBit r with
          | false => rfl
          | true =>
            rw [Bool.true_and]
            exact (hu r).2 (h r ((hL2 r).2 hb))
      have hle : m &&& u ≤ m := Nat.and_le_left
      cases hB : LotB ts L with
      | true =>
        have := key.2 (hiff.1 hB).2.2
        rw [this]; simp
      | false =>
        have : ¬ m &&& u = m := fun e => by
          have := hiff.2 ⟨h1, h2, key.1 e⟩
          rw [hB] at this; cases this
        simp; omega
    simp (dsimp := false) [e5, e6]
theorem lots_in_ok {ts : List (Nat × Nat)} {n : Nat} (ht : TiesOk n ts) (hn : n ≤ 12) : d_lots_in [dMasks ts n] = .ok (.lst ((((List.range (2 ^ n - 1)).map (1 + ·)).filter fun m => LotB ts (bits m n)).map dN)) := by
  have h2n : 2 ^ n ≤ 2 ^ 12 := Nat.pow_le_pow_right (by decide) hn
  have h2p : 1 ≤ 2 ^ n := Nat.pow_pos (by decide)
  have h256 : (2 : Nat) ^ 12 = 4096 := by decide
  refine fnP_eq rfl ?_
  unfold b_lots_in
  refine Ev.of ?_
  have hsh : shlD (.int 1) (.int n) = some (.int ((2 ^ n : Nat) : Int)) := by
    rw [shlD_int ⟨by omega, by omega, by decide⟩]
    simp
  have hrg : rng2D (.int 1) (.int ((2 ^ n : Nat) : Int)) = some (((List.range (2 ^ n - 1)).map (1 + ·)).map dN) := by
    rw [rng2D_int (by omega) (by omega) (by omega) (by omega)]
    have : ((2 ^ n : Nat) : Int) - 1 = ((2 ^ n - 1 : Nat) : Int) := by omega
    rw [this, Int.toNat_natCast]
    unfold rngD
    rw [List.map_map]
    congr 1
  have hlen : lenD (dMasks ts n) = some (.int n) := by simp
  have hlt : ∀ m : Nat, m ∈ (List.range (2 ^ n - 1)).map (1 + ·) → d_is_lot [dMasks ts n, .int m] = .ok (.bl (LotB ts (bits m n))) := by
    intro m hm
    obtain ⟨i, hi, rfl⟩ := List.mem_map.1 hm
    have hi' : i < 2 ^ n - 1 := by simpa using hi
    exact is_lot_ok ht hn (by omega) (by omega)
  have hll : ((List.range (2 ^ n - 1)).map (1 + ·)).length ≤ 16777216 := by rw [List.length_map, List.length_range]; omega
  generalize dMasks ts n = B at hlen hlt
  generalize (List.range (2 ^ n - 1)).map (1 + ·) = MS at hrg hlt hll
  generalize D.int ((2 ^ n : Nat) : Int) = pw at hsh hrg
  simp (dsimp := false)
  refine h_comp (enc := dN) MS (fun m => LotB ts (bits m n)) dN ?_ (by simp) hll ?_ ?_
  · simp (dsimp := false) [hlen, hsh, hrg]
  · intro m hm
    simp (dsimp := false) [hlt m hm]
  · simp (dsimp := false)
theorem lots_of_ok {zs : List Str} {l ts : List (Nat × Nat)} {n : Nat} {tx : D} (hz : NamesOk n zs) (hn : n ≤ 12) (ht : TiesOk n ts) (hs : Same l ts) : d_lots_of [.obj 3 [("rooms", .tup (zs.map .str)), ("ties", .tup (l.map (nm zs))), ("text", tx)]] = some (((lotsOf ts n (2 ^ n - 1)).map fun L => L.map fun r => zs.getD r Str.empty).map dLot) := by
  have hl : ∀ p ∈ l, p.1 < n ∧ p.2 < n := fun p hp => ht.lt p ((hs p).1 hp)
  have e1 := teller_bits_ok (T := .tup (l.map (nm zs))) hz hn hl rfl rfl
  have e2 : dMasks l n = dMasks ts n := by
    unfold dMasks
    congr 1
    exact List.map_congr_left fun r _ => by rw [masks_same hs]
  rw [e2] at e1
  have e3 := lots_in_ok ht hn
  have f1 : (("rooms" : Str) == ("rooms" : Str)) = true := by decide +kernel
  have f2 : (("ties" : Str) == ("rooms" : Str)) = false := by decide +kernel
  have f3 : (("ties" : Str) == ("ties" : Str)) = true := by decide +kernel
  generalize hW : (D.obj 3 [("rooms", .tup (zs.map .str)), ("ties", .tup (l.map (nm zs))), ("text", tx)]) = W
  have g1 : fldD 3 "rooms" W = some (.tup (zs.map .str)) := by subst hW; rw [fldD_obj]; simp only [List.lookup, f1]
  have g2 : fldD 3 "ties" W = some (.tup (l.map (nm zs))) := by subst hW; rw [fldD_obj]; simp only [List.lookup, f2, f3]
  clear hW
  have hms : ∀ m ∈ ((List.range (2 ^ n - 1)).map (1 + ·)).filter (fun m => LotB ts (bits m n)), m < 2 ^ n := by
    intro m hm
    obtain ⟨i, hi, rfl⟩ := List.mem_map.1 (List.mem_filter.1 hm).1
    have hi' : i < 2 ^ n - 1 := by simpa using hi
    omega
  have hmap : ((((List.range (2 ^ n - 1)).map (1 + ·)).filter fun m => LotB ts (bits m n)).map fun m => bits m n) = lotsOf ts n (2 ^ n - 1) := by
    unfold lotsOf
    rw [List.filter_map, List.map_map]
    have : (List.range (2 ^ n - 1)).map (fun i => bits (1 + i) n) = ((List.range (2 ^ n - 1)).map (1 + ·)).map fun m => bits m n := by rw [List.map_map]; rfl
    rw [this, List.filter_map, List.filter_map, List.map_map]
    rfl
  rw [← hmap]
  generalize ((List.range (2 ^ n - 1)).map (1 + ·)).filter (fun m => LotB ts (bits m n)) = MS at e3 hms
  generalize D.tup (l.map (nm zs)) = TT at e1 g2
  generalize dMasks ts n = B at e1 e3
  have fin : ∃ os, d_lots_of [W] = some os ∧ os = (((MS.map fun m => bits m n).map fun L => L.map fun r => zs.getD r Str.empty).map dLot) := by
    refine fnY_of rfl ?_
    unfold b_lots_of
    refine Ev.of ?_
    simp (dsimp := false) [g1, g2, e1]
    refine EvH.of (ev_yFor (enc := dN) MS (fun m => [dLot ((bits m n).map fun r => zs.getD r Str.empty)]) (fun s => s = [.sh W, .sh B, .un, .un]) (Ev.of ?_) ?_ ?_)
    · simp (dsimp := false) [e3]
    · rintro m hm s rfl
      refine Ev.of ?_
      simp (dsimp := false)
      refine Ev.of ?_
      simp (dsimp := false)
      refine h_map (enc := dN) (bits m n) (fun r => .str (zs.getD r Str.empty)) ?_ (by simp) ?_ ?_ ?_
      · simp (dsimp := false) [members_ok (hms m hm) (show n ≤ 1000 by omega)]
      · exact Nat.le_trans (List.length_filter_le ..) (by simp; omega)
      · intro r hr
        have hrl : r < zs.length := by rw [hz.len]; exact (mem_bits.1 hr).1
        have e4 : ixD (.tup (zs.map .str)) (dN r) = some (.str (zs.getD r Str.empty)) := ixD_t (by simp [hrl])
        generalize D.str (zs.getD r Str.empty) = zz at e4
        simp (dsimp := false) [g1, e4]
      · simp (dsimp := false)
    · rintro s rfl
      have e : (MS.flatMap fun m => [dLot ((bits m n).map fun r => zs.getD r Str.empty)]) = ((MS.map fun m => bits m n).map fun L => L.map fun r => zs.getD r Str.empty).map dLot := by
        rw [List.map_map, List.map_map]
        clear e3 hms
        induction MS with
        | nil => rfl
        | cons a l ih => rw [List.flatMap_cons, ih]; rfl
      rw [e]
      refine h_yK_nx.2 (h_y0.2 ?_)
      show [] ++ (_ ++ []) = _
      rw [List.append_nil, List.nil_append]
  obtain ⟨os, e, rfl⟩ := fin
  exact e
end K47

/-! ## K47i1 -/
namespace K47
open PySem L2 DL
/-! ### the ties in order -/
def row (l : List (Nat × Nat)) (n a : Nat) : List (Nat × Nat) := ((List.range n).filter fun b => decide ((a, b) ∈ l)).map fun b => (a, b)
def tl (l : List (Nat × Nat)) (n : Nat) : List (Nat × Nat) := (List.range n).flatMap (row l n)
theorem mem_row {l : List (Nat × Nat)} {n a : Nat} {p : Nat × Nat} : p ∈ row l n a ↔ p.1 = a ∧ p.2 < n ∧ p ∈ l := by
  obtain ⟨x, y⟩ := p
  unfold row
  simp only [List.mem_map, List.mem_filter, List.mem_range, decide_eq_true_eq, Prod.mk.injEq]
  constructor
  · rintro ⟨b, ⟨h1, h2⟩, h3, h4⟩
    subst h3 h4
    exact ⟨rfl, h1, h2⟩
  · rintro ⟨rfl, h1, h2⟩
    exact ⟨y, ⟨h1, h2⟩, rfl, rfl⟩
theorem mem_tl {l : List (Nat × Nat)} {n : Nat} (h : ∀ p ∈ l, p.1 < n ∧ p.2 < n) : Same (tl l n) l := fun p => by
  unfold tl
  simp only [List.mem_flatMap, List.mem_range, mem_row]
  exact ⟨fun ⟨a, h1, h2, h3, h4⟩ => h4, fun h1 => ⟨p.1, (h p h1).1, rfl, (h p h1).2, h1⟩⟩
theorem row_len {l : List (Nat × Nat)} {n a : Nat} : (row l n a).length ≤ n := by
  unfold row
  rw [List.length_map]
  exact Nat.le_trans (List.length_filter_le ..) (by simp)
theorem rows_len {l : List (Nat × Nat)} {n : Nat} : ∀ k : List Nat, (k.flatMap (row l n)).length ≤ k.length * n
  | [] => by simp
  | a :: k => by
    have := rows_len (l := l) (n := n) k
    have := row_len (l := l) (n := n) (a := a)
    rw [List.flatMap_cons, List.length_append, List.length_cons, Nat.succ_mul]; omega
theorem tl_len {l : List (Nat × Nat)} {n : Nat} : (tl l n).length ≤ n * n := by
  have := rows_len (l := l) (n := n) (List.range n)
  simpa [tl] using this
theorem mask_test {l : List (Nat × Nat)} {a b : Nat} : truD (.int (Builtin.bitAnd ((maskOf l b : Int) / 2 ^ a) 1)) = some (decide ((a, b) ∈ l)) := by
  rw [bit_test, mask_bit]
def ItD (l : List (Nat × Nat)) (n : Nat) (zs : List Str) (k : List Nat) : D := .lst ((k.flatMap (row l n)).map (nm zs))
def accL (l : List (Nat × Nat)) (n : Nat) (pre : List Nat) (a : Nat) (pre2 : List Nat) : List (Nat × Nat) := pre.flatMap (row l n) ++ (pre2.filter fun b => decide ((a, b) ∈ l)).map fun b => (a, b)
def AccD (l : List (Nat × Nat)) (n : Nat) (zs : List Str) (pre : List Nat) (a : Nat) (pre2 : List Nat) : D := .lst ((accL l n pre a pre2).map (nm zs))
theorem ties_in_ok {zs : List Str} {l : List (Nat × Nat)} {n : Nat} (hz : NamesOk n zs) (hn : n ≤ 12) : d_ties_in [.tup (zs.map .str), dMasks l n] = .ok (.tup ((tl l n).map (nm zs))) := by
  have hzl := hz.len
  have hB : ∀ b, b < n → ixD (dMasks l n) (dN b) = some (dN (maskOf l b)) := fun b hb => ixD_t (by simp [hb])
  have hR : ∀ a, a < n → ixD (.tup (zs.map .str)) (dN a) = some (.str (zs.getD a Str.empty)) := fun a ha => ixD_t (by
    have : a < zs.length := by omega
    simp [this])
  have hrl : lenD (.tup (zs.map .str)) = some (.int n) := by simp [hzl]
  have hri : rngItems (.rng 0 n) = some ((List.range n).map dN) := by
    rw [rngItems_eq (by omega) (by omega) (by omega) (by omega), Int.sub_zero, Int.toNat_natCast, rngD0]
  have hend : tupleD (ItD l n zs (List.range n)) = some (.tup ((tl l n).map (nm zs))) := rfl
  generalize dMasks l n = B at hB
  generalize hRR : D.tup (zs.map .str) = R at hR hrl
  generalize D.tup ((tl l n).map (nm zs)) = out at hend
  refine fnP_eq rfl ?_
  unfold b_ties_in
  refine Ev.of ?_
  simp (dsimp := false) [hrl]
  rw [h_eComp2]
  simp (dsimp := false) [hri]
  refine EvH.of (ev_compF (enc := dN) (fun pre post x s => s = [.sh R, .sh B, .sh (.rng 0 n), .un, .un] ∧ x = ItD l n zs pre) ?_ ?_ ?_)
  · exact ⟨rfl, rfl⟩
  · rintro pre a post x s e ⟨rfl, rfl⟩
    have ha : a < n := by
      have : a ∈ List.range n := by rw [← e]; simp
      simpa using this
    have hpl : pre.length ≤ n := by have := congrArg List.length e; simp at this; omega
    refine Ev.of ?_
    simp (dsimp := false)
    refine Ev.of ?_
    simp (dsimp := false)
    unfold act2
    refine Ev.of ?_
    simp (dsimp := false) [hri]
    refine EvH.of (ev_noOwn (by simp) ?_)
    refine EvH.of ?_
    rw [ev_bnd, ev_sClr, ev_bnd]
    refine ev_compF (enc := dN) (fun pre2 post2 x s => s = [.sh R, .sh B, .sh (.rng 0 n), .sh (dN a), .un] ∧ x = AccD l n zs pre a pre2) ?_ ?_ ?_
    · exact ⟨rfl, by unfold AccD accL ItD; simp⟩
    · rintro pre2 b post2 x s e2 ⟨rfl, rfl⟩
      have hb : b < n := by
        have : b ∈ List.range n := by rw [← e2]; simp
        simpa using this
      have hp2 : pre2.length ≤ n := by have := congrArg List.length e2; simp at this; omega
      have hal : (accL l n pre a pre2).length ≤ 12 * 12 + 12 := by
        have h1 := rows_len (l := l) (n := n) pre
        have h2 := List.length_filter_le (fun b => decide ((a, b) ∈ l)) pre2
        rw [accL, List.length_append, List.length_map]
        have : pre.length * n ≤ 12 * 12 := Nat.mul_le_mul (by omega) hn
        omega
      have e4 : shrD (dN (maskOf l b)) (dN a) = some (.int ((maskOf l b : Int) / 2 ^ a)) := by
        rw [shrD_int (by omega), Int.toNat_natCast]
      refine Ev.of ?_
      simp (dsimp := false)
      refine Ev.of ?_
      simp (dsimp := false) [hB b hb, e4, mask_test, -truD_int]
      by_cases hm : (a, b) ∈ l
      · rw [if_pos hm]
        have hpush : pushD (nm zs (a, b)) (AccD l n zs pre a pre2) = some (AccD l n zs pre a (pre2 ++ [b])) := by
          show (if _ then _ else _) = _
          rw [if_pos (by rw [DL.sizeLine_eq, List.length_map]; omega)]
          unfold AccD accL
          rw [List.filter_append, List.map_append]
          simp [hm]
        have e5 := hR a ha
        have e6 := hR b hb
        have hnm : nm zs (a, b) = .tup [.str (zs.getD a Str.empty), .str (zs.getD b Str.empty)] := rfl
        rw [hnm] at hpush
        generalize D.str (zs.getD a Str.empty) = za at hpush e5
        generalize D.str (zs.getD b Str.empty) = zb at hpush e6
        unfold act1
        refine Ev.of ?_
        simp (dsimp := false) [e5, e6, hpush]
      · rw [if_neg hm]
        unfold AccD accL
        rw [List.filter_append, List.map_append]
        simp [hm]
    · rintro x s ⟨rfl, rfl⟩
      have : AccD l n zs pre a (List.range n) = ItD l n zs (pre ++ [a]) := by
        unfold AccD ItD accL
        rw [List.flatMap_append]
        simp [row]
      rw [this, ev_bnd, ev_sClr, ev_ret]
      exact ⟨by simp, rfl⟩
  · rintro x s ⟨rfl, rfl⟩
    simp (dsimp := false) [hend]
theorem ordered_ok {zs : List Str} {l : List (Nat × Nat)} {n : Nat} {T : D} (hz : NamesOk n zs) (hn : n ≤ 12) (hl : ∀ p ∈ l, p.1 < n ∧ p.2 < n) (hT : seqItems T = some (l.map (nm zs))) : d_ordered_ties [.tup (zs.map .str), T] = .ok (.tup ((tl l n).map (nm zs))) := by
  have hzl := hz.len
  have e1 := teller_bits_ok (R := .tup (zs.map .str)) hz hn hl rfl hT
  have e2 := ties_in_ok (l := l) hz hn
  have hin : ∀ a, a < n → notInD (.str (zs.getD a Str.empty)) (.tup (zs.map .str)) = some (.bl false) := fun a ha => by
    unfold notInD
    have hal : a < zs.length := by omega
    rw [inT_tup rfl (fun d hd => by
      obtain ⟨p, hp, rfl⟩ := List.mem_map.1 hd
      rfl), inTup_map (enc := D.str) (fun a _ => eqv_str)]
    rw [decide_eq_true (by simp [hal])]
    rfl
  generalize D.tup ((tl l n).map (nm zs)) = out at e2
  generalize dMasks l n = B at e1 e2
  generalize hRR : D.tup (zs.map .str) = R at e1 e2 hin
  refine fnP_eq rfl ?_
  unfold b_ordered_ties
  refine Ev.of ?_
  simp (dsimp := false) [hT]
  refine EvH.of (ev_for (enc := nm zs) (fun pre post s => s = [.sh R, .sh T, .un, .un]) ?_ ?_ ?_)
  · rfl
  · rintro pre ⟨a, b⟩ post s e rfl
    obtain ⟨ha, hb⟩ := hl (a, b) (by rw [← e]; simp)
    have g1 := hin a ha
    have g2 := hin b hb
    refine Ev.of ?_
    simp (dsimp := false) only [nm]
    generalize D.str (zs.getD a Str.empty) = za at g1
    generalize D.str (zs.getD b Str.empty) = zb at g2
    simp (dsimp := false) [g1, g2]
  · rintro s rfl
    simp (dsimp := false) [e1, e2]
end K47

/-! ## K47i2 -/
namespace K47
open PySem L2 DL
/-! ### the text of a web, there and back -/
def sp : Str := ⟨#[32]⟩
theorem sp_eq : (" " : Str) = sp := by decide +kernel
def na (zs : List Str) (a : Nat) : Str := zs.getD a Str.empty
theorem nm_eq {zs : List Str} {p : Nat × Nat} : nm zs p = .tup [.str (na zs p.1), .str (na zs p.2)] := rfl
/-- the words that write ties -/
def tw (zs : List Str) : List (Nat × Nat) → List Str
  | [] => []
  | [p] => [na zs p.1, ">", na zs p.2]
  | p :: q :: r => na zs p.1 :: ">" :: na zs p.2 :: ";" :: tw zs (q :: r)
def tieS (zs : List Str) (p : Nat × Nat) : Str := na zs p.1 ++ " > " ++ na zs p.2
theorem join_two {sep : Str} : ∀ {xs ys : List Str}, xs ≠ [] → ys ≠ [] → Str.join sep (xs ++ ys) = Str.join sep xs ++ sep ++ Str.join sep ys
  | [], _, h, _ => absurd rfl h
  | [x], y :: ys, _, _ => rfl
  | [x], [], _, h => absurd rfl h
  | x :: x2 :: xs, ys, _, h => by
    have ih := join_two (sep := sep) (xs := x2 :: xs) (ys := ys) (by simp) h
    show x ++ sep ++ Str.join sep ((x2 :: xs) ++ ys) = x ++ sep ++ Str.join sep (x2 :: xs) ++ sep ++ Str.join sep ys
    rw [ih]
    simp only [PySem.Str.append_assoc]
theorem gt_eq : (" > " : Str) = sp ++ ">" ++ sp := by decide +kernel
theorem semi_eq : (" ; " : Str) = sp ++ ";" ++ sp := by decide +kernel
theorem tieS_eq {zs : List Str} {p : Nat × Nat} : tieS zs p = Str.join sp [na zs p.1, ">", na zs p.2] := by
  unfold tieS
  rw [gt_eq]
  show _ = na zs p.1 ++ sp ++ (">" ++ sp ++ na zs p.2)
  simp only [PySem.Str.append_assoc]
theorem tw_ne {zs : List Str} {p : Nat × Nat} {r : List (Nat × Nat)} : tw zs (p :: r) ≠ [] := by
  cases r <;> simp [tw]
theorem join_tw {zs : List Str} : ∀ {l : List (Nat × Nat)}, l ≠ [] → Str.join " ; " (l.map (tieS zs)) = Str.join sp (tw zs l)
  | [], h => absurd rfl h
  | [p], _ => tieS_eq
  | p :: q :: r, _ => by
    have ih := join_tw (zs := zs) (l := q :: r) (by simp)
    have e1 : Str.join (" ; " : Str) ((p :: q :: r).map (tieS zs)) = tieS zs p ++ " ; " ++ Str.join " ; " ((q :: r).map (tieS zs)) := rfl
    rw [e1, ih, tieS_eq, semi_eq]
    have e2 : tw zs (p :: q :: r) = [na zs p.1, (">" : Str), na zs p.2] ++ ([(";" : Str)] ++ tw zs (q :: r)) := rfl
    rw [e2, join_two (by simp) (by simp), join_two (by simp) tw_ne]
    have e3 : Str.join sp [(";" : Str)] = ";" := rfl
    rw [e3]
    simp only [PySem.Str.append_assoc]
/-- all words of a web's text -/
def wds (zs : List Str) (l : List (Nat × Nat)) : List Str := zs ++ [(":" : Str)] ++ tw zs l
def webS (zs : List Str) (l : List (Nat × Nat)) : Str := Str.join sp (wds zs l)
theorem webS_nil {zs : List Str} : webS zs [] = Str.join sp (zs ++ [(":" : Str)]) := by unfold webS wds; simp [tw]
theorem webS_cons {zs : List Str} {l : List (Nat × Nat)} (h : l ≠ []) : webS zs l = Str.join sp (zs ++ [(":" : Str)]) ++ sp ++ Str.join " ; " (l.map (tieS zs)) := by
  unfold webS wds
  cases l with
  | nil => exact absurd rfl h
  | cons p r => rw [join_two (by simp) tw_ne, join_tw (by simp)]
structure RoomsOk (n : Nat) (zs : List Str) (l : List (Nat × Nat)) : Prop where
  nm : NamesOk n zs
  n12 : n ≤ 12
  lt : ∀ p ∈ l, p.1 < n ∧ p.2 < n
  len : l.length ≤ 200
section
variable {n : Nat} {zs : List Str} {l : List (Nat × Nat)}
theorem na_mem (h : NamesOk n zs) {a : Nat} (ha : a < n) : na zs a ∈ zs := by
  have : a < zs.length := by rw [h.len]; exact ha
  unfold na
  simp [this]
theorem na_ok (h : NamesOk n zs) {a : Nat} (ha : a < n) : NameOk (na zs a) := h.ok _ (na_mem h ha)
/-- what stands among the words -/
def WordOk (z : Str) : Prop := z.length ≤ 16 ∧ Small z ∧ (32 : Nat) ∉ z.cps.toList
theorem NameOk.word {z : Str} (h : NameOk z) : WordOk z := ⟨h.hi, h.small, fun hm => by have := h.run 32 hm; exact absurd this (by decide)⟩
theorem word_lit {s : String} (h : (Str.ofString s).length ≤ 16 ∧ (Str.ofString s).cps.toList.all (fun c => decide (c < 128) && !decide (c = 32)) = true) : WordOk (Str.ofString s) := by
  refine ⟨h.1, fun c hc => ?_, fun hm => ?_⟩
  · have := List.all_eq_true.1 h.2 c hc
    simp at this; exact this.1
  · have := List.all_eq_true.1 h.2 32 hm
    simp at this
theorem tw_word (h : NamesOk n zs) : ∀ {l : List (Nat × Nat)}, (∀ p ∈ l, p.1 < n ∧ p.2 < n) → ∀ w ∈ tw zs l, WordOk w
  | [], _, w, hw => by cases hw
  | [p], hl, w, hw => by
    have hp := hl p (by simp)
    simp only [tw, List.mem_cons, List.not_mem_nil, or_false] at hw
    rcases hw with rfl | rfl | rfl
    · exact (na_ok h hp.1).word
    · exact word_lit (by decide +kernel)
    · exact (na_ok h hp.2).word
  | p :: q :: r, hl, w, hw => by
    have hp := hl p (by simp)
    have ih := tw_word h (l := q :: r) fun x hx => hl x (by simp at hx ⊢; exact .inr hx)
    rw [tw] at hw
    simp only [List.mem_cons] at hw
    rcases hw with rfl | rfl | rfl | rfl | hw
    · exact (na_ok h hp.1).word
    · exact word_lit (by decide +kernel)
    · exact (na_ok h hp.2).word
    · exact word_lit (by decide +kernel)
    · exact ih w hw
theorem tw_len : ∀ {l : List (Nat × Nat)}, l ≠ [] → (tw zs l).length + 1 = 4 * l.length
  | [], h => absurd rfl h
  | [p], _ => rfl
  | p :: q :: r, _ => by
    have ih := tw_len (l := q :: r) (by simp)
    rw [tw]
    simp only [List.length_cons] at ih ⊢
    omega
theorem tw_get : ∀ {l : List (Nat × Nat)} {i : Nat} {p : Nat × Nat}, l[i]? = some p → (tw zs l)[4 * i]? = some (na zs p.1) ∧ (tw zs l)[4 * i + 1]? = some (">" : Str) ∧ (tw zs l)[4 * i + 2]? = some (na zs p.2) ∧ (i + 1 < l.length → (tw zs l)[4 * i + 3]? = some (";" : Str))
  | [], i, p, h => by cases h
  | [q], 0, p, h => by cases h; exact ⟨rfl, rfl, rfl, fun h => by simp at h⟩
  | [q], i + 1, p, h => by simp at h
  | q :: q2 :: r, 0, p, h => by cases h; exact ⟨rfl, rfl, rfl, fun _ => rfl⟩
  | q :: q2 :: r, i + 1, p, h => by
    have ih := tw_get (l := q2 :: r) (i := i) (p := p) (by simpa using h)
    have e : tw zs (q :: q2 :: r) = na zs q.1 :: ">" :: na zs q.2 :: ";" :: tw zs (q2 :: r) := rfl
    rw [e]
    have e0 : 4 * (i + 1) = 4 * i + 4 := by omega
    rw [e0]
    refine ⟨ih.1, ?_, ?_, fun h => ?_⟩
    · exact ih.2.1
    · exact ih.2.2.1
    · exact ih.2.2.2 (by simp only [List.length_cons] at h ⊢; omega)
theorem wds_word (h : RoomsOk n zs l) : ∀ w ∈ wds zs l, WordOk w := by
  intro w hw
  unfold wds at hw
  rcases List.mem_append.1 hw with hw | hw
  · rcases List.mem_append.1 hw with hw | hw
    · exact (h.nm.ok w hw).word
    · rw [List.mem_singleton.1 hw]; exact word_lit (by decide +kernel)
  · exact tw_word h.nm h.lt w hw
theorem wds_len (h : RoomsOk n zs l) : (wds zs l).length ≤ 900 := by
  have h1 := h.nm.len
  have h2 := h.n12
  have h3 := h.len
  have h4 : (tw zs l).length ≤ 4 * l.length := by
    cases l with
    | nil => simp [tw]
    | cons p r => have := tw_len (zs := zs) (l := p :: r) (by simp); omega
  unfold wds
  simp only [List.length_append, List.length_singleton]
  omega
theorem web_len (h : RoomsOk n zs l) : (webS zs l).length ≤ 20000 := by
  have h1 := StrLaws.join_length_le sp (wds zs l)
  have h2 := StrLaws.sumLen_le (B := 16) (wds zs l) fun w hw => (wds_word h w hw).1
  have h3 := wds_len h
  have h4 : sp.length = 1 := rfl
  unfold webS
  rw [h4] at h1
  omega
theorem split_web (h : RoomsOk n zs l) : splitD (.str (webS zs l)) (.str " ") = some (.lst ((wds zs l).map .str)) := by
  rw [sp_eq]
  exact splitD_join (c := 32) (by unfold wds; simp) (fun w hw => (wds_word h w hw).2.2) (by have := web_len h; unfold webS at this; show (Str.join sp (wds zs l)).length + 2 ≤ _; omega)
end
end K47

/-! ## K47i3 -/
namespace K47
open PySem L2 DL
section
variable {n : Nat} {zs : List Str} {l : List (Nat × Nat)}
theorem jAdd_eq {a b : Str} (h : a.length + b.length ≤ 16777216) : jAdd a (.str b) = some (a ++ b) := by
  show (if _ then _ else _) = _
  rw [if_pos (by rw [len_app, DL.sizeLine_eq]; exact h)]
theorem spl : sp.length = 1 := rfl
theorem emp0 : Str.empty.length = 0 := rfl
theorem lit3 : (" > " : Str).length = 3 := by decide +kernel
theorem lit1 : (" " : Str).length = 1 := by decide +kernel
theorem semi3 : (" ; " : Str).length = 3 := by decide +kernel
theorem na_len (h : NamesOk n zs) {a : Nat} (ha : a < n) : (na zs a).length ≤ 16 := (na_ok h ha).hi
theorem ties_join (h : RoomsOk n zs l) : joinD (.str " ; ") (.lst ((l.map (tieS zs)).map .str)) = some (.str (Str.join " ; " (l.map (tieS zs)))) := by
  refine joinD_lst ?_
  have h2 := StrLaws.sumLen_le (B := 35) (l.map (tieS zs)) fun w hw => by
    obtain ⟨p, hp, rfl⟩ := List.mem_map.1 hw
    obtain ⟨ha, hb⟩ := h.lt p hp
    have h1 := na_len h.nm ha
    have h2 := na_len h.nm hb
    unfold tieS
    rw [len_app, len_app, lit3]; omega
  have h3 := h.len
  rw [semi3, List.length_map] at *
  omega
theorem head_join (h : NamesOk n zs) (hn : n ≤ 12) : joinD (.str " ") (.lst ((zs ++ [(":" : Str)]).map .str)) = some (.str (Str.join sp (zs ++ [(":" : Str)]))) ∧ (Str.join sp (zs ++ [(":" : Str)])).length ≤ 400 := by
  have h2 := StrLaws.sumLen_le (B := 16) (zs ++ [(":" : Str)]) fun w hw => by
    rcases List.mem_append.1 hw with hw | hw
    · exact (h.ok w hw).hi
    · rw [List.mem_singleton.1 hw]; decide +kernel
  have h3 := h.len
  have h4 := StrLaws.join_length_le sp (zs ++ [(":" : Str)])
  have h5 : sp.length = 1 := rfl
  have h6 : (zs ++ [(":" : Str)]).length = zs.length + 1 := by simp
  rw [h6] at h2 h4
  rw [h5] at h4
  refine ⟨?_, by omega⟩
  have := joinD_lst (a := sp) (l := zs ++ [(":" : Str)]) (by rw [h5, h6]; omega)
  rw [sp_eq]
  exact this
theorem ties_text_ok (h : RoomsOk n zs l) : d_ties_text [.tup (l.map (nm zs))] = .ok (.str (Str.join " ; " (l.map (tieS zs)))) := by
  have hj := ties_join h
  rw [List.map_map] at hj
  refine fnP_eq rfl ?_
  unfold b_ties_text
  refine Ev.of ?_
  generalize hT : D.tup (l.map (nm zs)) = T
  have hTi : seqItems T = some (l.map (nm zs)) := by subst hT; rfl
  clear hT
  have hle := h.len
  simp (dsimp := false)
  refine h_map (enc := nm zs) l (D.str ∘ tieS zs) ?_ (by simp) (by omega) ?_ ?_
  · simp (dsimp := false) only [h_itOf, h_eVar, List.getElem?_cons_zero, shH_sh, hTi, smH_some]
    exact ⟨trivial, trivial⟩
  · intro p hp
    obtain ⟨ha, hb⟩ := h.lt p hp
    have h1 := na_len h.nm ha
    have h2 := na_len h.nm hb
    have f1 : fmtD (.str (na zs p.1)) = some (.str (na zs p.1)) := fmtD_str (by omega)
    have f2 : fmtD (.str (na zs p.2)) = some (.str (na zs p.2)) := fmtD_str (by omega)
    have j1 : jAdd Str.empty (.str (na zs p.1)) = some (na zs p.1) := by
      rw [jAdd_eq (by rw [emp0]; omega), PySem.Str.empty_append]
    have j2 : jAdd (na zs p.1) (.str " > ") = some (na zs p.1 ++ " > ") := jAdd_eq (by rw [lit3]; omega)
    have j3 : jAdd (na zs p.1 ++ " > ") (.str (na zs p.2)) = some (tieS zs p) := jAdd_eq (by rw [len_app, lit3]; omega)
    rw [nm_eq]
    show EvH _ _ _ _
    simp only [Function.comp]
    generalize tieS zs p = ts at j3
    generalize na zs p.1 ++ " > " = ab at j2 j3
    generalize na zs p.1 = a at f1 j1 j2
    generalize na zs p.2 = b at f2 j3
    simp (dsimp := false) [f1, f2, j1, j2, j3]
  · simp (dsimp := false) only [hj, smH_some]
    rfl
theorem web_text_ok (h : RoomsOk n zs l) : d_web_text [.tup (zs.map .str), .tup (l.map (nm zs))] = .ok (.str (webS zs l)) := by
  obtain ⟨hj, hl⟩ := head_join h.nm h.n12
  have ht := ties_text_ok h
  have hzl : (zs.map D.str ++ [D.str ":"]).length ≤ 16777216 := by have := h.nm.len; have := h.n12; simp; omega
  have hlst : lstD (zs.map D.str ++ [D.str ":"]) = some (.lst ((zs ++ [(":" : Str)]).map .str)) := by
    rw [lstD_eq hzl]; simp
  have hwl := web_len h
  refine fnP_eq rfl ?_
  unfold b_web_text
  refine Ev.of ?_
  generalize hH : Str.join sp (zs ++ [(":" : Str)]) = H at hj hl
  generalize hTT : Str.join " ; " (l.map (tieS zs)) = TT at ht
  have f1 : fmtD (.str H) = some (.str H) := fmtD_str (by omega)
  have j1 : jAdd Str.empty (.str H) = some H := by
    rw [jAdd_eq (by rw [emp0]; omega), PySem.Str.empty_append]
  generalize hL : D.lst ((zs ++ [(":" : Str)]).map .str) = L at hj hlst
  by_cases hl0 : l = []
  · subst hl0
    have e : webS zs [] = H := by rw [webS_nil, hH]
    rw [e]
    simp (dsimp := false) [hlst, hj]
  · have e : webS zs l = H ++ sp ++ TT := by rw [webS_cons hl0, hH, hTT]
    rw [e] at hwl ⊢
    have hTl : H.length + 1 + TT.length ≤ 20000 := by
      rw [len_app, len_app, spl] at hwl
      omega
    have f2 : fmtD (.str TT) = some (.str TT) := fmtD_str (by omega)
    have j2 : jAdd H (.str " ") = some (H ++ sp) := by rw [sp_eq]; exact jAdd_eq (by rw [spl]; omega)
    have j3 : jAdd (H ++ sp) (.str TT) = some (H ++ sp ++ TT) := jAdd_eq (by rw [len_app, spl]; omega)
    have htru : truD (.tup (l.map (nm zs))) = some true := by
      cases l with
      | nil => exact absurd rfl hl0
      | cons p r => rfl
    generalize D.tup (l.map (nm zs)) = T at ht htru
    generalize H ++ sp ++ TT = X at j3
    generalize H ++ sp = Y at j2 j3
    simp (dsimp := false) [hlst, hj, htru, f1, f2, j1, j2, j3, ht]
theorem web_size (h : RoomsOk n zs l) : d_check_length [.str (webS zs l)] = .ok .non := by
  have hl := web_len h
  refine fnP_eq rfl ?_
  unfold b_check_length
  refine Ev.of ?_
  have e : lenD (.str (webS zs l)) = some (.int ((webS zs l).length : Nat)) := lenD_str (by omega)
  have g : decide ((200000 : Int) < (webS zs l).length) = false := by simp; omega
  simp (dsimp := false) [e, g]
end
end K47

/-! ## K47i4 -/
namespace K47
open PySem L2 DL
section
variable {n : Nat} {zs : List Str} {l : List (Nat × Nat)}
theorem fits {i : Int} (h1 : -1000000 ≤ i) (h2 : i ≤ 1000000) : Builtin.Range.rangeFitsLong i = true := by
  unfold Builtin.Range.rangeFitsLong
  rw [Bool.and_eq_true, decide_eq_true_eq, decide_eq_true_eq]
  constructor <;> omega
theorem rng4 {k : Nat} (h1 : 1 ≤ k) (h2 : k ≤ 1000) : rng3D (.int 0) (.int (4 * k - 1 : Nat)) (.int 4) = some ((List.range k).map fun i => dN (4 * i)) := by
  have e : Builtin.Range.rangeSize 0 ((4 * k - 1 : Nat) : Int) 4 = (k : Int) := by
    unfold Builtin.Range.rangeSize
    rw [if_pos (by omega), if_pos (by omega)]
    omega
  have es : Builtin.Range.small 0 ((4 * k - 1 : Nat) : Int) 4 = true := by
    unfold Builtin.Range.small
    rw [e, fits (by omega) (by omega), fits (i := ((4 * k - 1 : Nat) : Int)) (by omega) (by omega), fits (i := 4) (by omega) (by omega), fits (i := (k : Int)) (by omega) (by omega), if_pos (by omega), fits (i := ((4 * k - 1 : Nat) : Int) + (4 - 1)) (by omega) (by omega)]
    simp
  have e2 : rng3D (.int 0) (.int (4 * k - 1 : Nat)) (.int 4) = some (rng3L 0 4 (Builtin.Range.rangeSize 0 ((4 * k - 1 : Nat) : Int) 4).toNat) := by
    simp only [rng3D]
    rw [if_pos (by refine ⟨?_, ?_, es, ?_⟩; · omega
                   · omega
                   · rw [e, Int.toNat_natCast])]
  have e3 : (Builtin.Range.rangeSize 0 ((4 * k - 1 : Nat) : Int) 4).toNat = k := by rw [e]; simp
  rw [e2, e3]
  unfold rng3L
  exact congrArg some (List.map_congr_left fun i _ => congrArg D.int (by omega))
theorem ties_of_words_ok (h : RoomsOk n zs l) : d_ties_of_words [.lst ((tw zs l).map .str)] = .ok (.lst (l.map (nm zs))) := by
  refine fnP_eq rfl ?_
  unfold b_ties_of_words
  refine Ev.of ?_
  by_cases hl0 : l = []
  · subst hl0
    simp (dsimp := false) [tw]
  have hlen := tw_len (zs := zs) hl0
  have hle := h.len
  have hpos : 1 ≤ l.length := List.length_pos_iff.2 hl0
  have htru : truD (.lst ((tw zs l).map .str)) = some true := by
    have : tw zs l ≠ [] := fun e => by rw [e] at hlen; simp at hlen; omega
    cases hw : tw zs l with
    | nil => exact absurd hw this
    | cons a r => rfl
  have hlenD : lenD (.lst ((tw zs l).map .str)) = some (.int (4 * l.length - 1 : Nat)) := by
    rw [lenD_lst, List.length_map]
    have : (tw zs l).length = 4 * l.length - 1 := by omega
    rw [this]
  have hmod : modD (.int (4 * l.length - 1 : Nat)) (.int 4) = some (.int 3) := by
    rw [modD_int (by decide)]
    congr 2
    omega
  have hrg := rng4 (k := l.length) hpos (by omega)
  have hg : ∀ (i : Nat) p, l[i]? = some p → ixD (.lst ((tw zs l).map .str)) (dN (4 * i)) = some (.str (na zs p.1)) ∧ ixD (.lst ((tw zs l).map .str)) (dN (4 * i + 1)) = some (.str ">") ∧ ixD (.lst ((tw zs l).map .str)) (dN (4 * i + 2)) = some (.str (na zs p.2)) ∧ (i + 1 < l.length → ixD (.lst ((tw zs l).map .str)) (dN (4 * i + 3)) = some (.str ";")) := by
    intro i p hp
    obtain ⟨h1, h2, h3, h4⟩ := tw_get (zs := zs) hp
    exact ⟨ixD_l (by simp [h1]), ixD_l (by simp [h2]), ixD_l (by simp [h3]), fun h => ixD_l (by simp [h4 h])⟩
  generalize D.lst ((tw zs l).map .str) = W at htru hlenD hg
  generalize hL : D.int (4 * l.length - 1 : Nat) = L at hlenD hmod hrg
  simp (dsimp := false) [htru, hlenD, hmod, hrg]
  refine EvH.of (ev_forI (fun i s => s = [.sh W, .own (.lst ((l.take i).map (nm zs))), .un]) ?_ ?_ ?_)
  · simp
  · rintro i s hi rfl
    obtain ⟨p, hp⟩ : ∃ p, l[i]? = some p := ⟨_, List.getElem?_eq_getElem hi⟩
    obtain ⟨g1, g2, g3, g4⟩ := hg i p hp
    obtain ⟨ha, hb⟩ := h.lt p (List.mem_of_getElem? hp)
    have a1 : addD (dN (4 * i)) (.int 1) = some (dN (4 * i + 1)) := by rw [addD_int]; congr 2
    have a2 : addD (dN (4 * i)) (.int 2) = some (dN (4 * i + 2)) := by rw [addD_int]; congr 2
    have a3 : addD (dN (4 * i)) (.int 3) = some (dN (4 * i + 3)) := by rw [addD_int]; congr 2
    have n1 := wordlooks_ok (na_ok h.nm ha)
    have n2 := wordlooks_ok (na_ok h.nm hb)
    have q1 : neD (.str ">") (.str ">") = some (.bl false) := by
      rw [neD_str (by decide +kernel) (by decide +kernel)]; simp
    have q2 : neD (.str ";") (.str ";") = some (.bl false) := by
      rw [neD_str (by decide +kernel) (by decide +kernel)]; simp
    have lt3 : ltD (dN (4 * i + 3)) L = some (.bl (decide (i + 1 < l.length))) := by
      rw [← hL, ltD_int]
      congr 2
      exact decide_eq_decide.2 (by omega)
    have happ : appD (.tup [.str (na zs p.1), .str (na zs p.2)]) (.lst ((l.take i).map (nm zs))) = some (.non, .lst ((l.take (i + 1)).map (nm zs))) := by
      rw [appD_lst (by simp; omega), List.take_succ, hp, List.map_append]
      rfl
    generalize D.str (na zs p.1) = za at g1 n1 happ
    generalize D.str (na zs p.2) = zb at g3 n2 happ
    generalize D.str ">" = gt at g2 q1
    generalize D.str ";" = sm at g4 q2
    generalize dN (4 * i) = i0 at g1 a1 a2 a3
    generalize dN (4 * i + 1) = i1 at g2 a1
    generalize dN (4 * i + 2) = i2 at g3 a2
    generalize dN (4 * i + 3) = i3 at g4 a3 lt3
    refine Ev.of ?_
    simp (dsimp := false) [g1, g2, g3, a1, a2, a3, n1, n2, q1, lt3, hlenD, happ, -List.map_take]
    refine BrH.both (fun hlt => ?_) fun hlt => ?_
    · have := g4 (by simpa using hlt)
      simp (dsimp := false) [this, q2, g1, g3, a2, a3, happ, -List.map_take]
    · simp (dsimp := false) [g1, g3, a2, happ, -List.map_take]
  · rintro s rfl
    simp (dsimp := false)
theorem find_colon : ∀ {zs : List Str} {r : List Str}, (":" : Str) ∉ zs → (zs ++ (":" : Str) :: r).findIdx? (fun z => decide (z = (":" : Str))) = some zs.length
  | [], r, _ => by simp [List.findIdx?_cons]
  | z :: zs, r, h => by
    have h1 : z ≠ (":" : Str) := fun e => h (by rw [e]; simp)
    have h2 : (":" : Str) ∉ zs := fun e => h (by simp [e])
    have ih := find_colon (r := r) h2
    rw [List.cons_append, List.findIdx?_cons]
    simp [h1, ih]
theorem colon_no (h : NamesOk n zs) : (":" : Str) ∉ zs := fun hm => by
  have := (h.ok _ hm).run 58 (by decide +kernel)
  exact absurd this (by decide)
theorem web_parts_ok (h : RoomsOk n zs l) : d_web_parts [.str (webS zs l)] = .ok (.tup [.lst (zs.map .str), .lst (l.map (nm zs))]) := by
  have hsplit := split_web h
  have hzl := h.nm.len
  have hn12 := h.n12
  have hfine : ∀ d ∈ (wds zs l).map D.str, Fine 63 d := fun d hd => by
    obtain ⟨w, hw, rfl⟩ := List.mem_map.1 hd
    exact fine_str (wds_word h w hw).2.1.ok
  have hcf : Fine 64 (.str ":") := fine_str (by decide +kernel)
  have hnotin : notInD (.str ":") (.lst ((wds zs l).map .str)) = some (.bl false) := by
    unfold notInD
    rw [inT_lst hcf hfine, inTup_map (enc := D.str) (fun a _ => eqv_str), decide_eq_true (by unfold wds; simp)]
    rfl
  have hidx : idxD (.lst ((wds zs l).map .str)) (.str ":") = some (dN n) := by
    simp only [idxD]
    rw [if_pos (by rw [hcf.ok, (fine_lst hfine).ok]; rfl), pys_map, List.findIdx?_map]
    have : ((fun z => PyData.eqv z (D.str ":").py) ∘ fun b => (D.str b).py) = fun z => decide (z = (":" : Str)) := by
      funext z
      exact eqv_str
    rw [this]
    have e : wds zs l = zs ++ (":" : Str) :: tw zs l := by unfold wds; simp
    rw [e, find_colon (colon_no h.nm), hzl]
    rfl
  have hto : slD (.lst ((wds zs l).map .str)) none (some (n : Int)) = some (.lst (zs.map .str)) := by
    rw [slD_to]
    congr 2
    have e : wds zs l = zs ++ ((":" : Str) :: tw zs l) := by unfold wds; simp
    rw [e, List.map_append, List.take_left' (by simp [hzl])]
  have hfrom : slD (.lst ((wds zs l).map .str)) (some (((n : Int) + 1))) none = some (.lst ((tw zs l).map .str)) := by
    have e0 : (n : Int) + 1 = ((n + 1 : Nat) : Int) := by omega
    rw [e0, slD_from]
    congr 2
    have e : wds zs l = (zs ++ [(":" : Str)]) ++ tw zs l := rfl
    rw [e, List.map_append, List.drop_left' (by simp [hzl])]
  have htw := ties_of_words_ok h
  have hdn : dNon (.lst (l.map (nm zs))) = false := rfl
  have hall : allTD (.lst (zs.map fun _ => D.bl true)) = some (.bl true) := by
    rw [allT_bools (g := fun _ => true)]
    congr 2
    exact List.all_eq_true.2 fun _ _ => rfl
  refine fnP_eq rfl ?_
  unfold b_web_parts
  refine Ev.of ?_
  generalize D.str (webS zs l) = T at hsplit
  generalize D.lst ((wds zs l).map .str) = W at *
  generalize D.lst ((tw zs l).map .str) = TW at *
  generalize D.lst (l.map (nm zs)) = TL at *
  have hT : asStr T = some () := by
    cases T <;> first | rfl | (simp [splitD] at hsplit)
  have hW : asLst W = some () := by
    cases W <;> first | rfl | (simp [idxD] at hidx)
  simp (dsimp := false) [hT, hsplit, hnotin, hW, hidx, hto, hfrom, htw, hdn]
  refine h_map (enc := D.str) zs (fun _ => .bl true) ?_ (by simp) (by omega) ?_ ?_
  · simp (dsimp := false)
  · intro z hz
    simp (dsimp := false) [wordlooks_ok (h.nm.ok z hz)]
  · simp (dsimp := false) only [hall, smH_some]
    simp (dsimp := false)
def WebD (zs : List Str) (l : List (Nat × Nat)) (n : Nat) : D := .obj 3 [("rooms", .tup (zs.map .str)), ("ties", .tup ((tl l n).map (nm zs))), ("text", .str (webS zs (tl l n)))]
theorem RoomsOk.tl (h : RoomsOk n zs l) : RoomsOk n zs (K47.tl l n) := ⟨h.nm, h.n12, fun p hp => h.lt p ((mem_tl h.lt p).1 hp), by
  have := tl_len (l := l) (n := n)
  have h12 := h.n12
  have : n * n ≤ 12 * 12 := Nat.mul_le_mul h12 h12
  omega⟩
theorem Web_ok (h : RoomsOk n zs l) : d_Web (.obj 3 []) [.str (webS zs l)] = .ok .non (WebD zs l n) := by
  have e1 := web_size h
  have e2 := web_parts_ok h
  have e3 := checked_rooms_ok h.nm.ok h.nm.nd (by rw [h.nm.len]; exact h.n12)
  have e4 := ordered_ok (l := l) (T := .lst (l.map (nm zs))) h.nm h.n12 h.lt rfl
  have e5 := web_text_ok h.tl
  have c1 : (("rooms" : Str) == ("rooms" : Str)) = true := by decide +kernel
  have c2 : (("ties" : Str) == ("rooms" : Str)) = false := by decide +kernel
  have c3 : (("ties" : Str) == ("ties" : Str)) = true := by decide +kernel
  have d1 : ("rooms" : Str) ≠ "ties" := by decide +kernel
  have d2 : ("rooms" : Str) ≠ "text" := by decide +kernel
  have d3 : ("ties" : Str) ≠ "text" := by decide +kernel
  unfold WebD
  generalize D.lst (l.map (nm zs)) = TL at *
  generalize D.tup ((tl l n).map (nm zs)) = OT at *
  generalize D.tup (zs.map .str) = R at *
  generalize D.lst (zs.map .str) = RL at *
  generalize D.str (webS zs (tl l n)) = TX at *
  generalize D.str (webS zs l) = T at *
  have p1 : setFD 3 "rooms" R (.obj 3 []) = some ((), .obj 3 [("rooms", R)]) := setFD_obj (by simp)
  have p2 : setFD 3 "ties" OT (.obj 3 [("rooms", R)]) = some ((), .obj 3 [("rooms", R), ("ties", OT)]) := by
    rw [setFD_obj (by simp)]; simp [putFA, d1]
  have p3 : setFD 3 "text" TX (.obj 3 [("rooms", R), ("ties", OT)]) = some ((), .obj 3 [("rooms", R), ("ties", OT), ("text", TX)]) := by
    rw [setFD_obj (by simp)]; simp [putFA, d2, d3]
  have q1 : fldD 3 "rooms" (.obj 3 [("rooms", R)]) = some R := by rw [fldD_obj]; simp [List.lookup, c1]
  have q2 : fldD 3 "rooms" (.obj 3 [("rooms", R), ("ties", OT)]) = some R := by rw [fldD_obj]; simp [List.lookup, c1]
  have q3 : fldD 3 "ties" (.obj 3 [("rooms", R), ("ties", OT)]) = some OT := by rw [fldD_obj]; simp [List.lookup, c2, c3]
  have fin : ∃ d y, d_Web (.obj 3 []) [T] = .ok d y ∧ d = .non ∧ y = .obj 3 [("rooms", R), ("ties", OT), ("text", TX)] := by
    refine fnI_of rfl ?_
    unfold b_Web
    refine Ev.of ?_
    have o0 : isOb 3 (.obj 3 []) = true := rfl
    have o1 : isOb 3 (.obj 3 [("rooms", R)]) = true := rfl
    have o2 : isOb 3 (.obj 3 [("rooms", R), ("ties", OT)]) = true := rfl
    generalize D.obj 3 [("rooms", R), ("ties", OT), ("text", TX)] = X3 at *
    generalize D.obj 3 [("rooms", R), ("ties", OT)] = X2 at *
    generalize D.obj 3 [("rooms", R)] = X1 at *
    generalize D.obj 3 [] = X0 at *
    simp (dsimp := false) [e1, e2, e3, e4, e5, p1, p2, p3, q1, q2, q3, o0, o1, o2]
  obtain ⟨d, y, e, rfl, rfl⟩ := fin
  exact e
theorem web_of_ok (h : RoomsOk n zs l) : d_web_of [.lst (zs.map .str), .lst (l.map (nm zs)), .bl true] = .ok (WebD zs (tl l n) n) := by
  have e3 := checked_rooms_ok h.nm.ok h.nm.nd (by rw [h.nm.len]; exact h.n12)
  have e4 := ordered_ok (l := l) (T := .lst (l.map (nm zs))) h.nm h.n12 h.lt rfl
  have e5 := web_text_ok h.tl
  have e6 := Web_ok h.tl
  refine fnP_eq rfl ?_
  unfold b_web_of
  refine Ev.of ?_
  generalize D.lst (l.map (nm zs)) = TL at *
  generalize D.tup ((tl l n).map (nm zs)) = OT at *
  generalize D.tup (zs.map .str) = R at *
  generalize D.lst (zs.map .str) = RL at *
  generalize D.str (webS zs (tl l n)) = TX at *
  simp (dsimp := false) [e3, e4, e5, e6]
end
end K47

/-! ## K47i5 -/
namespace K47
open PySem L2 DL
section
variable {n : Nat} {zs : List Str} {l : List (Nat × Nat)}
theorem ix_name (h : NamesOk n zs) {a : Nat} (ha : a < n) : ixD (dNames zs) (dN a) = some (.str (na zs a)) := ixD_l (by
  have : a < zs.length := by rw [h.len]; exact ha
  unfold na
  simp [this])
theorem pairs_ok (h : NamesOk n zs) (hl : ∀ p ∈ l, p.1 < n ∧ p.2 < n) (hle : l.length ≤ 200) : d__law_pairs [dNames zs, dTs l] = .ok (.lst (l.map (nm zs))) := by
  have hg := fun a (ha : a < n) => ix_name h ha
  refine fnP_eq rfl ?_
  unfold b__law_pairs
  refine Ev.of ?_
  generalize dNames zs = Z at hg
  simp (dsimp := false)
  refine h_map (enc := dT) l (nm zs) ?_ (by simp) (by omega) ?_ ?_
  · simp (dsimp := false)
  · rintro ⟨a, b⟩ hp
    obtain ⟨ha, hb⟩ := hl _ hp
    have g1 := hg a ha
    have g2 := hg b hb
    rw [nm_eq]
    show EvH _ _ _ _
    simp only []
    generalize D.str (na zs a) = za at g1
    generalize D.str (na zs b) = zb at g2
    simp (dsimp := false) [g1, g2]
  · rfl
theorem named_ok {L : List Nat} (h : NamesOk n zs) (hL : ∀ r ∈ L, r < n) (hle : L.length ≤ 200) : d__law_named [dNames zs, dNs L] = .ok (dLot (L.map (na zs))) := by
  have hg := fun a (ha : a < n) => ix_name h ha
  refine fnP_eq rfl ?_
  unfold b__law_named
  refine Ev.of ?_
  generalize dNames zs = Z at hg
  simp (dsimp := false)
  refine h_map (enc := dN) L (fun r => .str (na zs r)) ?_ (by simp) (by omega) ?_ ?_
  · simp (dsimp := false)
  · intro a ha
    have g1 := hg a (hL a ha)
    generalize D.str (na zs a) = za at g1
    simp (dsimp := false) [g1]
  · simp (dsimp := false) [Function.comp_def]
theorem xtext_ok (h : RoomsOk n zs l) : d__law_xtext [dNames zs, .lst (l.map (nm zs))] = .ok (.str (webS zs l)) := by
  have hzl := h.nm.len
  have hn12 := h.n12
  have hle := h.len
  have a1 : addD (dNames zs) (.lst [.str ":"]) = some (dNames (zs ++ [(":" : Str)])) := by
    rw [addD_lst (by simp; omega)]; simp
  refine fnP_eq rfl ?_
  unfold b__law_xtext
  refine Ev.of ?_
  generalize D.str ":" = col at a1
  by_cases hl0 : l = []
  · subst hl0
    have a2 : addD (dNames (zs ++ [(":" : Str)])) (.lst []) = some (dNames (zs ++ [(":" : Str)])) := by
      rw [addD_lst (by simp; omega)]; simp
    have hj : joinD (.str " ") (dNames (zs ++ [(":" : Str)])) = some (.str (webS zs [])) := by
      rw [webS_nil]; exact (head_join h.nm h.n12).1
    generalize dNames zs = Z at a1
    generalize dNames (zs ++ [(":" : Str)]) = ZC at a1 a2 hj
    simp (dsimp := false) [a1, a2, hj]
  · have htru : truD (.lst (l.map (nm zs))) = some true := by
      cases l with
      | nil => exact absurd rfl hl0
      | cons p r => rfl
    have hj := ties_join h
    rw [List.map_map] at hj
    have a2 : addD (dNames (zs ++ [(":" : Str)])) (.lst [.str (Str.join " ; " (l.map (tieS zs)))]) = some (dNames (zs ++ [(":" : Str)] ++ [Str.join " ; " (l.map (tieS zs))])) := by
      rw [addD_lst (by simp; omega)]; simp
    have hwl := web_len h
    have hw : webS zs l = Str.join sp (zs ++ [(":" : Str)] ++ [Str.join " ; " (l.map (tieS zs))]) := by
      rw [webS_cons hl0, join_two (xs := zs ++ [(":" : Str)]) (ys := [Str.join " ; " (l.map (tieS zs))]) (by simp) (by simp)]
      rfl
    have hj2 : joinD (.str " ") (dNames (zs ++ [(":" : Str)] ++ [Str.join " ; " (l.map (tieS zs))])) = some (.str (webS zs l)) := by
      rw [hw, sp_eq]
      refine joinD_lst ?_
      have h1 := (head_join h.nm h.n12).2
      have h2 := StrLaws.sumLen_le (B := 16) (zs ++ [(":" : Str)]) fun w hw => by
        rcases List.mem_append.1 hw with hw | hw
        · exact (h.nm.ok w hw).hi
        · rw [List.mem_singleton.1 hw]; decide +kernel
      rw [webS_cons hl0, len_app, len_app] at hwl
      have e6 : (zs ++ [(":" : Str)]).length = zs.length + 1 := by simp
      rw [e6] at h2
      rw [spl]
      simp only [List.map_append, List.sum_append, List.length_append, List.length_singleton, List.map_cons, List.map_nil, List.sum_cons, List.sum_nil] at h2 ⊢
      omega
    generalize hTT : Str.join " ; " (l.map (tieS zs)) = TT at *
    generalize dNames (zs ++ [(":" : Str)] ++ [TT]) = Z3 at a2 hj2
    generalize dNames (zs ++ [(":" : Str)]) = ZC at a1 a2
    generalize dNames zs = Z at a1
    generalize D.str TT = T1 at *
    have hTL : seqItems (.lst (l.map (nm zs))) = some (l.map (nm zs)) := rfl
    generalize D.lst (l.map (nm zs)) = TL at *
    simp (dsimp := false) [a1, htru]
    refine h_map (enc := nm zs) l (D.str ∘ tieS zs) ?_ (by simp) (by omega) ?_ ?_
    · simp (dsimp := false) only [h_itOf, h_eVar, List.getElem?_cons_succ, List.getElem?_cons_zero, shH_sh, hTL, smH_some]
      exact ⟨trivial, trivial⟩
    · intro p hp
      obtain ⟨ha, hb⟩ := h.lt p hp
      have h1 := na_len h.nm ha
      have h2 := na_len h.nm hb
      have j2 : addD (.str (na zs p.1)) (.str " > ") = some (.str (na zs p.1 ++ " > ")) := addD_str (by rw [lit3]; omega)
      have j3 : addD (.str (na zs p.1 ++ " > ")) (.str (na zs p.2)) = some (.str (tieS zs p)) := addD_str (by rw [len_app, lit3]; omega)
      rw [nm_eq]
      show EvH _ _ _ _
      simp only [Function.comp]
      generalize D.str (tieS zs p) = ts at j3
      generalize D.str (na zs p.1 ++ " > ") = ab at j2 j3
      generalize D.str (na zs p.1) = a at j2
      generalize D.str (na zs p.2) = b at j3
      simp (dsimp := false) [j2, j3]
    · simp (dsimp := false) [hj, a2, hj2]
def WebIs (W : D) (zs : List Str) (ts : List (Nat × Nat)) : Prop := ∃ (l : List (Nat × Nat)) (tx : D), W = .obj 3 [("rooms", .tup (zs.map .str)), ("ties", .tup (l.map (nm zs))), ("text", tx)] ∧ Same l ts
theorem web_by_ok {x : D} {ts : List (Nat × Nat)} (hx : Bag x) (hz : NamesOk n zs) (hn : n ≤ 8) (ht : TiesOk n ts) : ∃ d y, d__law_web_by x [dNames zs, dTs ts] = .ok d y ∧ WebIs d zs ts ∧ Bag y := by
  have htl : ts.length ≤ 64 := Nat.le_trans ht.len (Nat.mul_le_mul hn hn)
  refine fnI_of rfl ?_
  unfold b__law_web_by
  refine ev_seq (fun s => ∃ (b : D) (us : List (Nat × Nat)), s = [.own b, .sh (dNames zs), .sh (dTs ts), .sh (.lst (us.map (nm zs)))] ∧ Bag b ∧ us.Perm ts) (Ev.of ?_) ?_
  · simp (dsimp := false)
    obtain ⟨_, y, e, us, rfl, hp, hy⟩ := mixed_ok (enc := dT) (xs := ts) hx (by omega)
    refine CiH.mk e ?_
    have hul : us.length = ts.length := hp.length_eq
    simp (dsimp := false) [pairs_ok (l := us) hz (fun p hp' => ht.lt p (hp.subset hp')) (by omega)]
    exact ⟨y, us, ⟨rfl, rfl⟩, hy, hp⟩
  rintro _ ⟨b, us, rfl, hb, hp⟩
  have hul : us.length = ts.length := hp.length_eq
  refine ev_seq (fun s => ∃ (b : D) (l : List (Nat × Nat)), s = [.own b, .sh (dNames zs), .sh (dTs ts), .sh (.lst (l.map (nm zs)))] ∧ Bag b ∧ Same l ts ∧ l.length ≤ 200) (Ev.of ?_) ?_
  · simp (dsimp := false)
    obtain ⟨_, y, e, r, rfl, hr, hy⟩ := draw_ok (lim := 3) hb (by omega) (by omega)
    refine CiH.mk e ?_
    have e1 : slD (.lst (us.map (nm zs))) none (some (r : Int)) = some (.lst ((us.take r).map (nm zs))) := by
      rw [slD_to, List.map_take]
    have e2 : addD (.lst (us.map (nm zs))) (.lst ((us.take r).map (nm zs))) = some (.lst ((us ++ us.take r).map (nm zs))) := by
      rw [addD_lst (by simp; omega)]; simp
    simp (dsimp := false) [e1, e2, -List.map_append, -List.map_take]
    refine ⟨y, us ++ us.take r, ⟨rfl, rfl⟩, hy, fun p => ?_, by simp; omega⟩
    rw [List.mem_append, ← hp.mem_iff]
    exact ⟨fun h => h.elim id List.mem_of_mem_take, .inl⟩
  rintro _ ⟨b, l, rfl, hb, hs, hll⟩
  have hro : RoomsOk n zs l := ⟨hz, by omega, fun p hp => ht.lt p ((hs p).1 hp), hll⟩
  have same : ∀ {a b c : List (Nat × Nat)}, Same a b → Same b c → Same a c := fun h k p => (h p).trans (k p)
  have hx1 := xtext_ok hro
  have hx2 := Web_ok hro
  have hx3 : d_web_of [dNames zs, .lst (l.map (nm zs)), .bl true] = .ok (WebD zs (tl l n) n) := web_of_ok hro
  have hW : WebIs (WebD zs l n) zs ts := ⟨_, _, rfl, same (mem_tl hro.lt) hs⟩
  have hW2 : WebIs (WebD zs (tl l n) n) zs ts := ⟨_, _, rfl, same (mem_tl hro.tl.lt) (same (mem_tl hro.lt) hs)⟩
  generalize WebD zs l n = W1 at hx2 hW
  generalize WebD zs (tl l n) n = W2 at hx3 hW2
  have hlist : listD (dNames zs) = some (dNames zs) := rfl
  generalize D.lst (l.map (nm zs)) = TL at hx1 hx3
  generalize D.str (webS zs l) = T at hx1 hx2
  generalize dNames zs = Z at *
  refine Ev.of ?_
  simp (dsimp := false)
  obtain ⟨_, y, e, r, rfl, hr, hy⟩ := draw_ok (lim := 2) hb (by omega) (by omega)
  refine CiH.mk e ?_
  simp (dsimp := false)
  refine BrH.both (fun _ => ?_) fun _ => ?_
  · simp (dsimp := false) [hx1, hx2]
    exact ⟨hW, hy⟩
  · simp (dsimp := false) [hlist, hx3]
    exact ⟨hW2, hy⟩
end
end K47

/-! ## K47j1 -/
namespace K47
open PySem L2 DL
/-! ### a lot is there just if a bare ring is -/
theorem least {P : Nat → Prop} (h : ∃ x, P x) : ∃ x, P x ∧ ∀ y, y < x → ¬ P y := by
  obtain ⟨x, hx⟩ := h
  induction x using Nat.strongRecOn with
  | ind x ih =>
    by_cases h : ∃ y, y < x ∧ P y
    · obtain ⟨y, h1, h2⟩ := h
      exact ih y h1 h2
    · exact ⟨x, hx, fun y h1 h2 => h ⟨y, h1, h2⟩⟩
def it (f : Nat → Nat) : Nat → Nat → Nat
  | 0, x => x
  | k + 1, x => f (it f k x)
theorem it_add (f : Nat → Nat) : ∀ a b x, it f (a + b) x = it f a (it f b x)
  | 0, b, x => by rw [Nat.zero_add]; rfl
  | a + 1, b, x => by
    have e : a + 1 + b = (a + b) + 1 := by omega
    rw [e]
    show f (it f (a + b) x) = f (it f a (it f b x))
    rw [it_add f a b x]
/-- something comes back -/
theorem comes_back {f : Nat → Nat} {n x : Nat} (h : ∀ k, it f k x < n) : ∃ i p, 1 ≤ p ∧ it f p (it f i x) = it f i x := by
  by_cases hd : ((List.range (n + 1)).map fun k => it f k x).Nodup
  · have := nodup_le (m := List.range n) hd fun y hy => by
      obtain ⟨k, _, rfl⟩ := List.mem_map.1 hy
      simpa using h k
    simp at this
    omega
  · have : ∃ i j, i < j ∧ it f i x = it f j x := by
      refine Classical.byContradiction fun hn => hd ?_
      unfold List.Nodup
      rw [List.pairwise_map]
      refine (List.pairwise_lt_range (n := n + 1)).imp ?_
      intro a b hab e
      exact hn ⟨a, b, hab, e⟩
    obtain ⟨i, j, hij, e⟩ := this
    refine ⟨i, j - i, by omega, ?_⟩
    rw [← it_add, Nat.sub_add_cancel (by omega), e]
theorem lot_ring {ts : List (Nat × Nat)} {n : Nat} {L : List Nat} (hL : ∀ r ∈ L, r < n) (h0 : L ≠ []) (hP : LotP ts L) : ∃ r w a, r < n ∧ Way ts r w a ∧ (a, r) ∈ ts ∧ Bare ts w := by
  obtain ⟨h1, h2, h3⟩ := hP
  have hf : ∃ f : Nat → Nat, ∀ r ∈ L, f r ∈ L ∧ (r, f r) ∈ ts := by
    refine ⟨fun r => if h : ∃ t, t ∈ L ∧ (r, t) ∈ ts then h.choose else 0, fun r hr => ?_⟩
    have h : ∃ t, t ∈ L ∧ (r, t) ∈ ts := h3 r hr
    simp only [dif_pos h]
    exact h.choose_spec
  obtain ⟨f, hf⟩ := hf
  obtain ⟨x, hx⟩ := List.exists_mem_of_ne_nil L h0
  have hitL : ∀ k y, y ∈ L → it f k y ∈ L := by
    intro k y hy
    induction k with
    | zero => exact hy
    | succ k ih => exact (hf _ ih).1
  obtain ⟨i, p, hp, hc⟩ := comes_back (f := f) (n := n) (x := x) fun k => hL _ (hitL k x hx)
  have hcL := hitL i x hx
  generalize it f i x = c at hc hcL
  -- the least one of the way round
  obtain ⟨r, ⟨j, hj⟩, hmin⟩ := least (P := fun y => ∃ j, it f j c = y) ⟨c, 0, rfl⟩
  have hrL : r ∈ L := by rw [← hj]; exact hitL j c hcL
  have hrp : it f p r = r := by rw [← hj, ← it_add, Nat.add_comm, it_add, hc]
  obtain ⟨q, ⟨hq1, hq⟩, hqmin⟩ := least (P := fun k => 1 ≤ k ∧ it f k r = r) ⟨p, hp, hrp⟩
  have hge : ∀ k, r ≤ it f k r := fun k => by
    rcases Nat.lt_or_ge (it f k r) r with h | h
    · exact absurd ⟨k + j, by rw [it_add, hj]⟩ (hmin _ h)
    · exact h
  have hne : ∀ a b, a < b → b < q → it f a r ≠ it f b r := by
    intro a b hab hbq e
    refine hqmin (q - b + a) (by omega) ⟨by omega, ?_⟩
    rw [it_add, e, ← it_add, Nat.sub_add_cancel (by omega), hq]
  have hway : ∀ k, k < q → Way ts r ((List.range (k + 1)).map fun i => it f i r) (it f k r) := by
    intro k
    induction k with
    | zero => intro _; exact .one
    | succ k ih =>
      intro hk
      rw [List.range_succ, List.map_append]
      refine .snoc (ih (by omega)) (hf _ (hitL k r hrL)).2 ?_ ?_
      · show r < it f (k + 1) r
        have h1 := hge (k + 1)
        have h2 := hne 0 (k + 1) (by omega) hk
        have h2' : r ≠ it f (k + 1) r := h2
        have : it f (k + 1) r = f (it f k r) := rfl
        omega
      · intro hm
        obtain ⟨a, ha, e⟩ := List.mem_map.1 hm
        have : a < k + 1 := by simpa using ha
        exact hne a (k + 1) this hk e
  refine ⟨r, _, _, hL r hrL, hway (q - 1) (by omega), ?_, ?_⟩
  · have := (hf _ (hitL (q - 1) r hrL)).2
    have e : f (it f (q - 1) r) = r := by
      have : it f (q - 1 + 1) r = f (it f (q - 1) r) := rfl
      rw [← this, Nat.sub_add_cancel hq1, hq]
    rw [e] at this
    exact this
  · intro a b y z hab hy hz
    rw [List.getElem?_map] at hy hz
    have hal : a < q - 1 + 1 := by
      by_cases h : a < q - 1 + 1
      · exact h
      · rw [List.getElem?_eq_none (by simpa using h)] at hy; cases hy
    have hbl : b < q - 1 + 1 := by
      by_cases h : b < q - 1 + 1
      · exact h
      · rw [List.getElem?_eq_none (by simpa using h)] at hz; cases hz
    rw [List.getElem?_range hal] at hy
    rw [List.getElem?_range hbl] at hz
    cases hy
    cases hz
    exact h2 _ (hitL a r hrL) _ (hitL b r hrL) (hne a b hab (by omega))
/-- a row of rooms that is a lot, as a mask -/
theorem lot_mask {ts : List (Nat × Nat)} {n : Nat} {R : List Nat} (ht : TiesOk n ts) (hR : ∀ r ∈ R, r < n) (h0 : R ≠ []) (hP : LotP ts R) : lotsOf ts n (2 ^ n - 1) ≠ [] := by
  have hb : ∀ s, (maskOf (R.map fun r => (r, 0)) 0).testBit s = decide (s ∈ R) := fun s => by
    rw [mask_bit]
    exact decide_eq_decide.2 (by simp)
  have hlt : maskOf (R.map fun r => (r, 0)) 0 < 2 ^ n := mask_lt fun p hp => by
    obtain ⟨r, hr, rfl⟩ := List.mem_map.1 hp
    exact hR r hr
  generalize maskOf (R.map fun r => (r, 0)) 0 = m at hb hlt
  have hm0 : m ≠ 0 := by
    obtain ⟨x, hx⟩ := List.exists_mem_of_ne_nil R h0
    intro e
    have := hb x
    rw [e, Nat.zero_testBit, decide_eq_true hx] at this
    cases this
  have hmem : ∀ r, r ∈ bits m n ↔ r ∈ R := fun r => by
    rw [mem_bits, hb, decide_eq_true_eq]
    exact ⟨fun h => h.2, fun h => ⟨hR r h, h⟩⟩
  have hPb : LotP ts (bits m n) := by
    obtain ⟨h1, h2, h3⟩ := hP
    refine ⟨fun r hr => h1 r ((hmem r).1 hr), fun r hr r' hr' => h2 r ((hmem r).1 hr) r' ((hmem r').1 hr'), fun r hr => ?_⟩
    obtain ⟨t, h4, h5⟩ := h3 r ((hmem r).1 hr)
    exact ⟨t, (hmem t).2 h4, h5⟩
  have hB := (lotB_iff ht.nd bits_nd).2 hPb
  intro hnil
  unfold lotsOf at hnil
  rw [List.filter_eq_nil_iff] at hnil
  refine hnil (bits m n) (List.mem_map.2 ⟨m - 1, by simp; omega, ?_⟩) hB
  have : 1 + (m - 1) = m := by omega
  rw [this]
theorem NoSib.symm {ts : List (Nat × Nat)} {a b : Nat} (h : NoSib ts a b) : NoSib ts b a := fun s ⟨h1, h2⟩ => h s ⟨h2, h1⟩
theorem bare_ne {ts : List (Nat × Nat)} {w : List Nat} (h : Bare ts w) {x y : Nat} (hx : x ∈ w) (hy : y ∈ w) (hne : x ≠ y) : NoSib ts x y := by
  obtain ⟨i, hi, rfl⟩ := List.getElem_of_mem hx
  obtain ⟨j, hj, rfl⟩ := List.getElem_of_mem hy
  rcases Nat.lt_trichotomy i j with h1 | h1 | h1
  · exact h i j _ _ h1 (List.getElem?_eq_getElem hi) (List.getElem?_eq_getElem hj)
  · subst h1; exact absurd rfl hne
  · exact (h j i _ _ h1 (List.getElem?_eq_getElem hj) (List.getElem?_eq_getElem hi)).symm
theorem way_next {ts : List (Nat × Nat)} {r : Nat} {w : List Nat} {a : Nat} (h : Way ts r w a) : (∀ x ∈ w, x ≠ a → ∃ y ∈ w, (x, y) ∈ ts) ∧ (∀ x ∈ w, x ≠ r → ∃ y ∈ w, (y, x) ∈ ts) ∧ r ∈ w ∧ a ∈ w := by
  induction h with
  | one => exact ⟨fun x hx hne => absurd (List.mem_singleton.1 hx) hne, fun x hx hne => absurd (List.mem_singleton.1 hx) hne, by simp, by simp⟩
  | snoc h e l nn ih =>
    rename_i u b t
    obtain ⟨h1, h2, h3, h4⟩ := ih
    refine ⟨fun x hx hne => ?_, fun x hx hne => ?_, by simp [h3], by simp⟩
    · rcases List.mem_append.1 hx with hx | hx
      · by_cases hb : x = b
        · exact ⟨t, by simp, hb ▸ e⟩
        · obtain ⟨y, hy, hxy⟩ := h1 x hx hb
          exact ⟨y, by simp [hy], hxy⟩
      · exact absurd (List.mem_singleton.1 hx) hne
    · rcases List.mem_append.1 hx with hx | hx
      · obtain ⟨y, hy, hxy⟩ := h2 x hx hne
        exact ⟨y, by simp [hy], hxy⟩
      · rw [List.mem_singleton.1 hx]
        exact ⟨b, by simp [h4], e⟩
theorem ring_lot {ts : List (Nat × Nat)} {n r a : Nat} {w : List Nat} (ht : TiesOk n ts) (hr : r < n) (hw : Way ts r w a) (hc : (a, r) ∈ ts) (hb : Bare ts w) : lotsOf ts n (2 ^ n - 1) ≠ [] := by
  obtain ⟨h1, h2, h3, h4⟩ := way_next hw
  refine lot_mask ht (hw.lt hr ht) hw.ne ⟨fun x hx => ?_, fun x hx y hy hne s => bare_ne hb hx hy hne s, fun x hx => ?_⟩
  · by_cases e : x = r
    · exact ⟨a, e ▸ hc⟩
    · obtain ⟨y, _, h⟩ := h2 x hx e
      exact ⟨y, h⟩
  · by_cases e : x = a
    · exact ⟨r, h3, e ▸ hc⟩
    · exact h1 x hx e
theorem lots_nil_iff {ts : List (Nat × Nat)} {n : Nat} (ht : TiesOk n ts) : lotsOf ts n (2 ^ n - 1) = [] ↔ ∀ r w a, r < n → Way ts r w a → (a, r) ∈ ts → ¬ Bare ts w := by
  constructor
  · intro h r w a h1 h2 h3 h4
    exact ring_lot ht h1 h2 h3 h4 h
  · intro h
    unfold lotsOf
    rw [List.filter_eq_nil_iff]
    intro L hL hB
    obtain ⟨i, hi, rfl⟩ := List.mem_map.1 hL
    have hi' : i < 2 ^ n - 1 := by simpa using hi
    have hP := (lotB_iff ht.nd bits_nd).1 hB
    have hne : bits (1 + i) n ≠ [] := by
      intro e
      have : ∀ s, ¬ (1 + i).testBit s = true := fun s hs => by
        have hsn : s < n := by
          by_cases h : s < n
          · exact h
          · rw [Nat.testBit_lt_two_pow (Nat.lt_of_lt_of_le (show 1 + i < 2 ^ n by omega) (Nat.pow_le_pow_right (by decide) (by omega)))] at hs
            cases hs
        have : s ∈ bits (1 + i) n := mem_bits.2 ⟨hsn, hs⟩
        rw [e] at this
        cases this
      have := nat_zero.2 this
      omega
    obtain ⟨r, w, a, h1, h2, h3, h4⟩ := lot_ring (fun r hr => (mem_bits.1 hr).1) hne hP
    exact h r w a h1 h2 h3 h4
theorem bare_lots {ts : List (Nat × Nat)} {n : Nat} {ring : List Nat} (ht : TiesOk n ts) (h : BareTies n ts ring) : lotsOf ts n (2 ^ n - 1) ≠ [] := by
  refine lot_mask ht h.lt h.ne ⟨fun x hx => ?_, fun x hx y hy hne s => bare_ne h.bare hx hy hne s, fun x hx => ?_⟩
  · obtain ⟨k, hk, rfl⟩ := List.getElem_of_mem hx
    refine ⟨prv ring k, ?_⟩
    have := h.go k hk
    have e : cur ring k = ring[k] := by unfold cur; simp [hk]
    rw [e] at this
    exact this
  · obtain ⟨k, hk, rfl⟩ := List.getElem_of_mem hx
    by_cases hl : k + 1 < ring.length
    · refine ⟨cur ring (k + 1), cur_mem hl, ?_⟩
      have := h.go (k + 1) hl
      have e : prv ring (k + 1) = ring[k] := by unfold prv; simp [hk]
      rw [e] at this
      exact this
    · have h0 : 0 < ring.length := by omega
      refine ⟨cur ring 0, cur_mem h0, ?_⟩
      have := h.go 0 h0
      have e : prv ring 0 = ring[k] := by
        unfold prv
        have : ring.length - 1 = k := by omega
        simp [this, hk]
      rw [e] at this
      exact this
end K47

/-! ## K47k1 -/
namespace K47
open PySem L2 DL
def dueOf (zs : List Str) (ts : List (Nat × Nat)) (n : Nat) : List (List Str) := (lotsOf ts n (2 ^ n - 1)).map fun L => L.map (na zs)
abbrev dueD (zs : List Str) (ts : List (Nat × Nat)) (n : Nat) : D := .lst ((dueOf zs ts n).map dLot)
section
variable {n : Nat} {zs : List Str} {ts : List (Nat × Nat)}
theorem lot_mem {L : List Nat} (h : L ∈ lotsOf ts n (2 ^ n - 1)) : (∀ r ∈ L, r < n) ∧ L.length ≤ n := by
  obtain ⟨i, _, rfl⟩ := List.mem_map.1 (List.mem_filter.1 h).1
  exact ⟨fun r hr => (mem_bits.1 hr).1, Nat.le_trans (List.length_filter_le ..) (by simp)⟩
theorem lots_len (hn : n ≤ 8) : (lotsOf ts n (2 ^ n - 1)).length ≤ 255 := by
  have := lotsOf_len (ts := ts) (n := n) (k := 2 ^ n - 1)
  have h : 2 ^ n ≤ 2 ^ 8 := Nat.pow_le_pow_right (by decide) hn
  have : (2 : Nat) ^ 8 = 256 := by decide
  omega
theorem told_web {W : D} (hW : WebIs W zs ts) (hz : NamesOk n zs) (hn : n ≤ 8) (ht : TiesOk n ts) : d__law_lots_told [W, dueD zs ts n] = .ok (.bl true) := by
  obtain ⟨l, tx, rfl, hs⟩ := hW
  refine told_ok (lots_of_ok (tx := tx) hz (by omega) ht hs) ?_ ?_
  · intro w hw
    obtain ⟨L, hL, rfl⟩ := List.mem_map.1 hw
    obtain ⟨h1, h2⟩ := lot_mem hL
    refine ⟨by rw [List.length_map]; omega, fun z hz' => ?_⟩
    obtain ⟨r, hr, rfl⟩ := List.mem_map.1 hz'
    exact na_ok hz (h1 r hr)
  · have := lots_len (ts := ts) hn
    unfold dueOf
    rw [List.length_map]; omega
theorem due_fine (hz : NamesOk n zs) : ∀ d ∈ (dueOf zs ts n).map dLot, Fine 63 d := fun d hd => by
  obtain ⟨w, hw, rfl⟩ := List.mem_map.1 hd
  obtain ⟨L, hL, rfl⟩ := List.mem_map.1 hw
  refine fine_tup (k := 62) fun e he => ?_
  obtain ⟨z, hz', rfl⟩ := List.mem_map.1 he
  obtain ⟨r, hr, rfl⟩ := List.mem_map.1 hz'
  exact (na_ok hz ((lot_mem hL).1 r hr)).fine
theorem due_nil (hz : NamesOk n zs) : eqD (dueD zs ts n) (.lst []) = some (.bl (lotsOf ts n (2 ^ n - 1)).isEmpty) := by
  rw [eqD_lst_nil (due_fine hz)]
  unfold dueOf
  simp
/-- the law's list of due lots -/
theorem due_comp {s : Sl} {fa : M D} {i j : Nat} {Q : D → Sl → Prop} {h : Hd Q} (hz : NamesOk n zs) (hn : n ≤ 8) (ht : TiesOk n ts) (hfa : ∀ (K : D → Sl → Prop) (k : Hd K), K (dN n) s → EvH fa s K k) (hj : s[j]? = some (.sh (dTs ts))) (hi : s[i]? = some (.sh (dNames zs))) (hi16 : i ≠ 16) (hs : s[16]? = some .un) (q : Q (dueD zs ts n) s) :
    EvH (eComp (itOf seqItems (eCall d__law_lots [] (aCons fa (aCons (eVar j) aNil)))) (tgN 16) (ret true) (eCall d__law_named [] (aCons (eVar i) (aCons (eVar 16) aNil))) [16]) s Q h := by
  have hl := lots_ok hn ht
  have hlen := lots_len (ts := ts) hn
  have h16 : 16 < s.length := (List.getElem?_eq_some_iff.1 hs).1
  have hset : s.set 16 .un = s := by
    apply List.ext_getElem?
    intro k
    rw [List.getElem?_set]
    by_cases e : 16 = k
    · subst e; rw [if_pos rfl, if_pos h16, hs]
    · simp [e]
  refine h_map (enc := dNs) (lotsOf ts n (2 ^ n - 1)) (fun L => dLot (L.map (na zs))) ?_ ?_ (by omega) ?_ ?_
  · rw [h_itOf, h_eCall, h_aCons]
    refine hfa _ _ ?_
    simp (dsimp := false) only [h_aCons, h_eVar, hj, shH_sh, h_aNil, List.append_nil, hl, clH_ok, seqItems_lst, smH_some]
    exact ⟨trivial, trivial⟩
  · simp [hs]
  · intro L hL
    obtain ⟨h1, h2⟩ := lot_mem hL
    have hnm := named_ok (L := L) hz h1 (by omega)
    have g1 : (s.set 16 (.sh (dNs L)))[16]? = some (.sh (dNs L)) := by rw [List.getElem?_set]; simp [h16]
    have g2 : (s.set 16 (.sh (dNs L)))[i]? = some (.sh (dNames zs)) := by rw [List.getElem?_set]; simp [Ne.symm hi16, hi]
    have g3 : (s.set 16 (.sh (dNs L))).set 16 .un = s := by rw [List.set_set, hset]
    rw [clr_cons, clr_nil, hset, h_tgN]
    refine .mk h16 (.mk ?_ ?_)
    · rw [clr_cons, clr_nil, g3]
    · simp (dsimp := false) only [h_eCall, h_aCons, h_eVar, g1, g2, shH_sh, h_aNil, List.append_nil, hnm, clH_ok]
      exact ⟨trivial, trivial⟩
  · unfold dueD dueOf at q
    rw [List.map_map] at q
    exact q
end
end K47

/-! ## K47m -/
namespace K47
open PySem L2 DL
abbrev LS (ns : List Int) (b : D) (x2 x3 x4 x5 x6 x7 x8 x9 x10 x11 x12 x13 x14 x15 x16 x17 x18 : DL.Slot) : Sl := [.sh (.scr ns), .own b, x2, x3, x4, x5, x6, x7, x8, x9, x10, x11, x12, x13, x14, x15, x16, x17, x18]
theorem law_true (ns : List Int) (h : ns.length ≤ 63) : d_law [.scr ns] = .ok (.bl true) := by
  refine fnP_eq rfl ?_
  unfold b_law
  refine ev_seq (fun s => ∃ b, s = LS ns b .un .un .un .un .un .un .un .un .un .un .un .un .un .un .un .un .un ∧ Bag b) (Ev.of ?_) ?_
  · obtain ⟨b, e, hb⟩ := bag_ok (ns := ns)
    simp (dsimp := false) [e]
    exact hb
  rintro _ ⟨b, rfl, hb⟩
  refine ev_seq (fun s => ∃ (b : D) (n : Nat) (zs : List Str) (ts : List (Nat × Nat)), s = LS ns b (.sh (dNames zs)) (.sh (dTs ts)) .un .un .un .un .un .un .un .un .un .un .un .un .un .un .un ∧ Bag b ∧ n ≤ 6 ∧ NamesOk n zs ∧ TiesOk n ts) (Ev.of ?_) ?_
  · simp (dsimp := false)
    obtain ⟨_, y, e, n, zs, ts, rfl, hn, hz, ht, hy⟩ := web_ok hb
    refine CiH.mk e ?_
    simp (dsimp := false)
    exact ⟨y, n, zs, ts, ⟨rfl, rfl, rfl⟩, hy, hn, hz, ht⟩
  rintro _ ⟨b, n, zs, ts, rfl, hb, hn, hz, ht⟩
  refine ev_seq (fun s => ∃ (b : D) (m : Nat), s = LS ns b (.sh (dNames zs)) (.sh (dTs ts)) (.sh (dN m)) .un .un .un .un .un .un .un .un .un .un .un .un .un .un ∧ Bag b ∧ 5 ≤ m ∧ m ≤ 8) (Ev.of ?_) ?_
  · simp (dsimp := false)
    obtain ⟨_, y, e, r, rfl, hr, hy⟩ := draw_ok (lim := 4) hb (by omega) (by omega)
    refine CiH.mk e ?_
    have e2 : addD (.int 5) (.int r) = some (dN (5 + r)) := by rw [addD_int]; congr 2
    generalize hm : 5 + r = m at e2
    simp (dsimp := false) only [e2, smH_some]
    exact ⟨by simp, rfl, y, m, rfl, hy, by omega, by omega⟩
  rintro _ ⟨b, m, rfl, hb, hm5, hm8⟩
  refine ev_seq (fun s => ∃ (b : D) (os : List Str) (spots : List Nat), s = LS ns b (.sh (dNames zs)) (.sh (dTs ts)) (.sh (dN m)) (.sh (dNames os)) (.sh (dNs spots)) .un .un .un .un .un .un .un .un .un .un .un .un ∧ Bag b ∧ NamesOk m os ∧ spots.Perm (List.range m)) (Ev.of ?_) ?_
  · simp (dsimp := false)
    obtain ⟨_, y, e, os, rfl, h1, h2, h3, hy⟩ := fresh_ok (near := zs) (n := m) hb hz.ok (by rw [hz.len]; omega) (by omega)
    refine CiH.mk e ?_
    simp (dsimp := false) [lrg1D_nat (show m ≤ 2 ^ 24 by omega)]
    obtain ⟨_, y2, e2, l, rfl, hp, hy2⟩ := mixed_range (n := m) hy (by omega)
    refine CiH.mk e2 ?_
    simp (dsimp := false)
    exact ⟨y2, os, l, ⟨rfl, rfl, rfl⟩, hy2, ⟨h1, h2, h3⟩, hp⟩
  rintro _ ⟨b, os, spots, rfl, hb, hos, hsp⟩
  obtain ⟨hsl, hsn, hslt⟩ := perm_range hsp
  refine ev_seq (fun s => s = LS ns b (.sh (dNames zs)) (.sh (dTs ts)) (.sh (dN m)) (.sh (dNames os)) (.sh (dNs spots)) (.sh (dTs (ringT spots))) .un .un .un .un .un .un .un .un .un .un .un) (Ev.of ?_) ?_
  · simp (dsimp := false)
    refine h_map (enc := dN) (List.range m) (fun k => dT (prv spots k, cur spots k)) ?_ (by simp) (by simp; omega) ?_ ?_
    · simp (dsimp := false) [rng1D_nat (show m < 2 ^ 62 by omega), rngD0]
    · intro k hk
      have hk' : k < spots.length := by rw [hsl]; simpa using hk
      simp (dsimp := false) [ix_prev hk', ix_cur hk']
    · have e2 : (List.range m).map (fun k => dT (prv spots k, cur spots k)) = (ringT spots).map dT := by unfold ringT; rw [List.map_map, hsl]; rfl
      rw [e2]
      simp (dsimp := false)
  rintro _ rfl
  refine ev_seq (fun s => ∃ (b : D) (mo : List (Nat × Nat)), s = LS ns b (.sh (dNames zs)) (.sh (dTs ts)) (.sh (dN m)) (.sh (dNames os)) (.sh (dNs spots)) (.sh (dTs mo)) .un .un .un .un .un .un .un .un .un .un .un ∧ Bag b ∧ TiesOk m mo) (Ev.of ?_) ?_
  · simp (dsimp := false)
    obtain ⟨_, y, e, r, rfl, hr, hy⟩ := draw_ok (lim := 4) hb (by omega) (by omega)
    refine CiH.mk e ?_
    simp (dsimp := false) [rng1D_nat (show r < 2 ^ 62 by omega)]
    refine EvH.of (ev_forR (fun i s => ∃ (b : D) (mo : List (Nat × Nat)), s = LS ns b (.sh (dNames zs)) (.sh (dTs ts)) (.sh (dN m)) (.sh (dNames os)) (.sh (dNs spots)) (.sh (dTs mo)) .un .un .un .un .un .un .un .un .un .un .un ∧ Bag b ∧ TiesOk m mo) ?_ ?_ ?_)
    · exact ⟨y, ringT spots, rfl, hy, ringT_ok hsn hslt⟩
    · rintro i s hi ⟨b, mo, rfl, hb, hmo⟩
      have hml : mo.length ≤ 64 := Nat.le_trans hmo.len (Nat.mul_le_mul hm8 hm8)
      refine Ev.of ?_
      simp (dsimp := false)
      obtain ⟨_, y1, e1, r1, rfl, hr1, hy1⟩ := draw_ok (lim := m) hb (by omega) (by omega)
      refine CiH.mk e1 ?_
      simp (dsimp := false)
      obtain ⟨_, y2, e2, r2, rfl, hr2, hy2⟩ := draw_ok (lim := m) hy1 (by omega) (by omega)
      refine CiH.mk e2 ?_
      simp (dsimp := false) [in_ties]
      refine BrH.both (fun _ => ?_) fun hnot => ?_
      · simp (dsimp := false)
        exact ⟨y2, mo, ⟨rfl, rfl⟩, hy2, hmo⟩
      · have hnew : (r1, r2) ∉ mo := by simpa using hnot
        have hadd : addD (dTs mo) (.lst [.tup [.int r1, .int r2]]) = some (dTs (mo ++ [(r1, r2)])) := by
          rw [addD_lst (by simp; omega)]; simp
        simp (dsimp := false) [hadd, -List.map_append]
        exact ⟨y2, mo ++ [(r1, r2)], ⟨rfl, rfl⟩, hy2, hmo.snoc hnew hr1 hr2⟩
    · rintro s ⟨b, mo, rfl, hb, hmo⟩
      simp (dsimp := false)
      exact ⟨b, mo, ⟨rfl, rfl⟩, hb, hmo⟩
  rintro _ ⟨b, mo, rfl, hb, hmo⟩
  refine ev_seq (fun s => ∃ (b : D) (fw : Nat), s = LS ns b (.sh (dNames zs)) (.sh (dTs ts)) (.sh (dN m)) (.sh (dNames os)) (.sh (dNs spots)) (.sh (dTs mo)) .un .un .un (.sh (dN fw)) .un .un .un .un .un .un .un ∧ Bag b ∧ 1 ≤ fw ∧ fw ≤ 4) (Ev.of ?_) ?_
  · simp (dsimp := false) [lstD, DL.sizeLine_eq]
    obtain ⟨_, y, e, ⟨k, hk, rfl⟩, hy⟩ := of_nats (ns := [2, 3, 4, 1]) hb (by simp) (by simp)
    refine CiH.mk e ?_
    have h4 : 1 ≤ k ∧ k ≤ 4 := by
      have : ∀ m ∈ [2, 3, 4, 1], 1 ≤ m ∧ m ≤ 4 := by decide
      exact this k hk
    simp (dsimp := false)
    exact ⟨y, k, ⟨rfl, rfl⟩, hy, h4.1, h4.2⟩
  rintro _ ⟨b, fw, rfl, hb, hf1, hf4⟩
  refine ev_seq (fun s => ∃ (b : D) (qs : List Str) (ks : List (Nat × Nat)), s = LS ns b (.sh (dNames zs)) (.sh (dTs ts)) (.sh (dN m)) (.sh (dNames os)) (.sh (dNs spots)) (.sh (dTs mo)) .un .un .un (.sh (dN fw)) (.sh (dNames qs)) (.sh (dTs ks)) .un .un .un .un .un ∧ Bag b ∧ NamesOk fw qs ∧ TiesOk fw ks ∧ ∃ ring, BareTies fw ks ring) (Ev.of ?_) ?_
  · simp (dsimp := false)
    obtain ⟨_, y, e, qs, rfl, h1, h2, h3, hy⟩ := fresh_ok (near := []) (n := fw) hb (by simp) (by simp) (by omega)
    refine CiH.mk e ?_
    simp (dsimp := false)
    obtain ⟨_, y2, e2, ks, ring, rfl, h4, h5, hy2⟩ := bare_ties_ok (n := fw) hy hf1 (by omega)
    refine CiH.mk e2 ?_
    simp (dsimp := false)
    exact ⟨y2, qs, ks, ⟨rfl, rfl, rfl⟩, hy2, ⟨h1, h2, h3⟩, h4, ring, h5⟩
  rintro _ ⟨b, qs, ks, rfl, hb, hqs, hks, ring, hring⟩
  refine ev_seq (fun s => ∃ (b W : D), s = LS ns b (.sh (dNames zs)) (.sh (dTs ts)) (.sh (dN m)) (.sh (dNames os)) (.sh (dNs spots)) (.sh (dTs mo)) .un .un .un (.sh (dN fw)) (.sh (dNames qs)) (.sh (dTs ks)) (.sh W) .un .un .un .un ∧ Bag b ∧ WebIs W zs ts) (Ev.of ?_) ?_
  · simp (dsimp := false)
    obtain ⟨W, y, e, hW, hy⟩ := web_by_ok hb hz (show n ≤ 8 by omega) ht
    refine CiH.mk e ?_
    simp (dsimp := false)
    exact ⟨y, W, ⟨rfl, rfl⟩, hy, hW⟩
  rintro _ ⟨b, W, rfl, hb, hW⟩
  have hlenz : lenD (dNames zs) = some (dN n) := by rw [lenD_lst, List.length_map, hz.len]
  refine ev_seq (fun s => s = LS ns b (.sh (dNames zs)) (.sh (dTs ts)) (.sh (dN m)) (.sh (dNames os)) (.sh (dNs spots)) (.sh (dTs mo)) .un .un .un (.sh (dN fw)) (.sh (dNames qs)) (.sh (dTs ks)) (.sh W) (.sh (dueD zs ts n)) .un .un .un) (Ev.of ?_) ?_
  · rw [h_sAsg]
    refine due_comp hz (show n ≤ 8 by omega) ht (fun K k q => ?_) rfl rfl (by decide) rfl ?_
    · rw [h_eUn, h_eVar]
      simp (dsimp := false) only [List.getElem?_cons_succ, List.getElem?_cons_zero, shH_sh, hlenz, smH_some]
      exact q
    · exact ⟨by simp, rfl, rfl⟩
  rintro _ rfl
  have htold := told_web hW hz (show n ≤ 8 by omega) ht
  have hnil := due_nil (n := n) (ts := ts) hz
  obtain ⟨_, eB, bs, rfl, hbs⟩ := bares_ok hn ht
  have hbn : eqD (.lst (bs.map dTup)) (.lst []) = some (.bl bs.isEmpty) := by
    rw [eqD_lst_nil fun d hd => by
      obtain ⟨w, hw, rfl⟩ := List.mem_map.1 hd
      exact (fine_dTup (k := 0)).mono (by decide)]
    simp
  have hsame : (lotsOf ts n (2 ^ n - 1)).isEmpty = bs.isEmpty := by
    rw [Bool.eq_iff_iff, List.isEmpty_iff, List.isEmpty_iff, hbs, lots_nil_iff ht]
  generalize D.lst (bs.map dTup) = BS at eB hbn
  refine ev_seq (fun s => s = LS ns b (.sh (dNames zs)) (.sh (dTs ts)) (.sh (dN m)) (.sh (dNames os)) (.sh (dNs spots)) (.sh (dTs mo)) .un .un .un (.sh (dN fw)) (.sh (dNames qs)) (.sh (dTs ks)) (.sh W) (.sh (dueD zs ts n)) .un .un .un) (Ev.of ?_) ?_
  · generalize dueD zs ts n = due at htold hnil
    generalize dNames zs = Z at hlenz
    generalize dTs ts = TS at eB
    simp (dsimp := false) [htold, hnil, hlenz, eB, hbn, hsame]
  rintro _ rfl
  refine ev_seq (fun s => s = LS ns b (.sh (dNames zs)) (.sh (dTs ts)) (.sh (dN m)) (.sh (dNames os)) (.sh (dNs spots)) (.sh (dTs mo)) .un .un .un (.sh (dN fw)) (.sh (dNames qs)) (.sh (dTs ks)) (.sh W) (.sh (dueD zs ts n)) .un (.sh (dueD os mo m)) .un) (Ev.of ?_) ?_
  · rw [h_sAsg]
    refine due_comp hos hm8 hmo (fun K k q => ?_) rfl rfl (by decide) rfl ?_
    · rw [h_eVar]
      exact ⟨_, rfl, q⟩
    · exact ⟨by simp, rfl, rfl⟩
  rintro _ rfl
  refine ev_seq (fun s => s = LS ns b (.sh (dNames zs)) (.sh (dTs ts)) (.sh (dN m)) (.sh (dNames os)) (.sh (dNs spots)) (.sh (dTs mo)) .un .un .un (.sh (dN fw)) (.sh (dNames qs)) (.sh (dTs ks)) (.sh W) (.sh (dueD zs ts n)) .un (.sh (dueD os mo m)) (.sh (dueD qs ks fw))) (Ev.of ?_) ?_
  · rw [h_sAsg]
    refine due_comp hqs (show fw ≤ 8 by omega) hks (fun K k q => ?_) rfl rfl (by decide) rfl ?_
    · rw [h_eVar]
      exact ⟨_, rfl, q⟩
    · exact ⟨by simp, rfl, rfl⟩
  rintro _ rfl
  have hnil3 := due_nil (n := fw) (ts := ks) hqs
  have hne3 : (lotsOf ks fw (2 ^ fw - 1)).isEmpty = false := by
    cases he : (lotsOf ks fw (2 ^ fw - 1)).isEmpty with
    | false => rfl
    | true => exact absurd (List.isEmpty_iff.1 he) (bare_lots hks hring)
  rw [hne3] at hnil3
  refine ev_seq (fun s => ∃ b, s = LS ns b (.sh (dNames zs)) (.sh (dTs ts)) (.sh (dN m)) (.sh (dNames os)) (.sh (dNs spots)) (.sh (dTs mo)) .un .un .un (.sh (dN fw)) (.sh (dNames qs)) (.sh (dTs ks)) (.sh W) (.sh (dueD zs ts n)) .un (.sh (dueD os mo m)) (.sh (dueD qs ks fw)) ∧ Bag b) (Ev.of ?_) ?_
  · simp (dsimp := false) only [h_sIf, h_bOr, h_bNot, h_tstB, h_eCall, h_aCons, h_eCallI, h_eVar, h_aNil, List.getElem?_cons_succ, List.getElem?_cons_zero, shH_sh, owH_own]
    obtain ⟨W2, y, e, hW2, hy⟩ := web_by_ok hb hos hm8 hmo
    refine CiH.mk e ?_
    have ht2 := told_web hW2 hos hm8 hmo
    generalize dueD os mo m = due2 at ht2
    generalize dueD qs ks fw = due3 at hnil3
    simp (dsimp := false) [ht2, hnil3]
    exact hy
  rintro _ ⟨b, rfl, hb⟩
  refine Ev.of ?_
  simp (dsimp := false) only [h_sRet, h_eAndV, h_eCall, h_aCons, h_eCallI, h_eVar, h_aNil, List.getElem?_cons_succ, List.getElem?_cons_zero, shH_sh, owH_own]
  obtain ⟨W3, y, e, hW3, hy⟩ := web_by_ok hb hqs (show fw ≤ 8 by omega) hks
  refine CiH.mk e ?_
  have ht3 := told_web hW3 hqs (show fw ≤ 8 by omega) hks
  generalize dueD qs ks fw = due3 at ht3
  generalize dueD zs ts n = due at htold
  simp (dsimp := false) [ht3, htold]
end K47

/-! ## K47a -/
namespace K47
open PySem L2 DL
def top (i : Nat) : Stmt := PySem.Challenge.pw_nofirst_k47_whole_lots.main.body.getD i (.Pass ⟨0, 0, 0, 0⟩)
structure Tx (K : PySem.W.Frag) (mg : Str → Option Value) (ca : Nat → Addr) : Prop where
  c_FIGURES : ∃ t, mg "FIGURES" = some (.str "0123456789" t)
  c_LETTERS : ∃ t, mg "LETTERS" = some (.str "ABCDEFGHIJKLMNOPQRSTUVWXYZabcdefghijklmnopqrstuvwxyz" t)
  c_NAME_LENGTH : ∃ t, mg "NAME_LENGTH" = some (.int 16 t)
  c_NO_NAMES : ∃ (a : Addr) (o : Obj) (its : Array Value) (n : Nat), mg "NO_NAMES" = some (.ref a) ∧ K.lookup a = some o ∧ o.cls = .type "tuple" ∧ o.data = .seq its n ∧ its.size ≤ sizeLine ∧ Vals (l_NO_NAMES.map V.str) its.toList
  c_TEXT_LIMIT : ∃ t, mg "TEXT_LIMIT" = some (.int 200000 t)
  c_WEB_ROOMS : ∃ t, mg "WEB_ROOMS" = some (.int 12 t)
  cl_Web : Cls K (ca 3)
  e_BadName : ∃ c, mg "BadName" = some c
  m_Web : mg "Web" = some (.ref (ca 3))
  n_all : mg "all" = none
  n_enumerate : mg "enumerate" = none
  n_int : mg "int" = none
  n_isinstance : mg "isinstance" = none
  n_len : mg "len" = none
  n_list : mg "list" = none
  n_max : mg "max" = none
  n_min : mg "min" = none
  n_range : mg "range" = none
  n_repr : mg "repr" = none
  n_set : mg "set" = none
  n_sorted : mg "sorted" = none
  n_str : mg "str" = none
  n_tuple : mg "tuple" = none
  na_Web_rooms : NoAttr K (ca 3) "rooms"
  na_Web_text : NoAttr K (ca 3) "text"
  na_Web_ties : NoAttr K (ca 3) "ties"
section
variable {P : Program} {w : World} {K : PySem.W.Frag} {mg : Str → Option Value} {base : Heap} {ca : Nat → Addr}
abbrev s_is_run_character : Stmt := top 9
theorem sc_is_run_character : FnScope ["character"] ["character"] (defScope s_is_run_character) := ⟨rfl, rfl, rfl, by decide +kernel, rfl, by decide +kernel, by decide +kernel⟩
theorem k_is_run_character (T : Tx K mg ca) (F : Has K mg "is_run_character" "is_run_character" s_is_run_character ["character"] [])  : Cal P w K mg base 1 "is_run_character" [] (spP ⟨K, ca⟩ 1 d_is_run_character) := by
  obtain ⟨t_FIGURES, m_FIGURES⟩ := T.c_FIGURES
  obtain ⟨t_LETTERS, m_LETTERS⟩ := T.c_LETTERS
  refine cal_fnP (ca := ca) (k := 0) (n := 1) rfl rfl rfl F sc_is_run_character (by decide) (body := b_is_run_character) fun f cdv A outer s H E hr => ?_
  exact ex_mk (sndS_ret (snd_orV (snd_op opE_in snd_var (Snd.rd snd_str)) (snd_orV (snd_op opE_in snd_var (Snd.rd snd_str)) (snd_op opE_eq snd_var (Snd.rd snd_str)))))
    (pss_one (ps_ret (pe_or (pe_cmpR (op_inU hr.u65) (pv 0) (pe_glob (v := .str "ABCDEFGHIJKLMNOPQRSTUVWXYZabcdefghijklmnopqrstuvwxyz") rfl m_LETTERS ⟨_, rfl⟩) (by rfl)) (pe_or (pe_cmpR (op_inU hr.u65) (pv 0) (pe_glob (v := .str "0123456789") rfl m_FIGURES ⟨_, rfl⟩) (by rfl)) (pe_one (pe_cmpR (op_eqD hr.u64) (pv 0) pe_str (nomark _)))))))
abbrev s_is_name_nameforms : Stmt := top 10
theorem sc_is_name_nameforms : FnScope ["thing", "character"] ["thing"] (defScope s_is_name_nameforms) := ⟨rfl, rfl, rfl, by decide +kernel, rfl, by decide +kernel, by decide +kernel⟩
theorem k_is_name_nameforms (T : Tx K mg ca) (F : Has K mg "is_name_nameforms" "is_name" s_is_name_nameforms ["thing"] []) (h_is_run_character : Cal P w K mg base 1 "is_run_character" [] (spP ⟨K, ca⟩ 1 d_is_run_character)) : Cal P w K mg base 2 "is_name_nameforms" [] (spP ⟨K, ca⟩ 1 d_is_name_nameforms) := by
  obtain ⟨t_LETTERS, m_LETTERS⟩ := T.c_LETTERS
  obtain ⟨t_NAME_LENGTH, m_NAME_LENGTH⟩ := T.c_NAME_LENGTH
  obtain ⟨a_NO_NAMES, o_NO_NAMES, its_NO_NAMES, n_NO_NAMES, m_NO_NAMES, q1_NO_NAMES, q2_NO_NAMES, q3_NO_NAMES, q4_NO_NAMES, q5_NO_NAMES⟩ := T.c_NO_NAMES
  have r_NO_NAMES : ∀ B, RD ⟨K, ca⟩ B g_NO_NAMES (.ref a_NO_NAMES) := fun B => rd_ktup q1_NO_NAMES q2_NO_NAMES q3_NO_NAMES q4_NO_NAMES q5_NO_NAMES B
  refine cal_fnP (ca := ca) (k := 1) (n := 2) rfl rfl rfl F sc_is_name_nameforms (by decide) (body := b_is_name_nameforms) fun f cdv A outer s H E hr => ?_
  exact ex_mk (sndS_seq (sndS_if (snd_not (snd_tru (Snd.rd (snd_isiStr snd_var)))) (sndS_ret snd_bl) sndS_next)
      (sndS_seq (sndS_if (snd_or (snd_test (snd_op opE_lt (snd_cb1 unE_len (Snd.rd snd_var)) (Snd.rd snd_int))) (snd_test (snd_op opE_gt (snd_cb1 unE_len (Snd.rd snd_var)) (Snd.rd snd_int)))) (sndS_ret snd_bl) sndS_next)
      (sndS_seq (sndS_if (snd_or (snd_test (snd_op opE_notIn (snd_op opE_ix snd_var (Snd.rd snd_int)) (Snd.rd snd_str))) (snd_test (snd_op opE_in snd_var (Snd.rd (snd_C (d := g_NO_NAMES) (v := .ref a_NO_NAMES) r_NO_NAMES))))) (sndS_ret snd_bl) sndS_next)
      (sndS_seq (sndS_for (snd_iSeq snd_var) (tg_name (i := 1)) (by decide) (by decide) (sndS_if (snd_not (snd_tru (Snd.rd (snd_call0 (fun _ _ h => fnP_len h) (snd_cons snd_var snd_nil))))) (sndS_ret snd_bl) sndS_next))
      (sndS_ret snd_bl)))))
    (pss_cons (ps_if (pt_not (pt_truth (pe_callB call_isi rfl T.n_isinstance (by decide +kernel) (pa_cons (pv 0) (pa_cons (pe_bltn (v := .ty "str") rfl T.n_str (by decide +kernel) rfl) pa_nil))) (by intro _; rfl))) (pss_one (ps_ret pe_bl)) pss_nil)
      (pss_cons (ps_if (PW.pt (pw_or (pt_cmpR op_lt (pe_callB cr_lenU rfl T.n_len (by decide +kernel) (pa_cons (pv 0) pa_nil)) pe_int (nomark _)) (pw_or1 (pt_cmpR op_gt (pe_callB cr_lenU rfl T.n_len (by decide +kernel) (pa_cons (pv 0) pa_nil)) (pe_glob (v := .int 16) rfl m_NAME_LENGTH ⟨_, rfl⟩) (nomark _))))) (pss_one (ps_ret pe_bl)) pss_nil)
      (pss_cons (ps_if (PW.pt (pw_or (pt_cmpR (op_notInU hr.u65) (pe_ix ix_seq (pv 0) pe_int (fun _ _ => rfl)) (pe_glob (v := .str "ABCDEFGHIJKLMNOPQRSTUVWXYZabcdefghijklmnopqrstuvwxyz") rfl m_LETTERS ⟨_, rfl⟩) (by rfl)) (pw_or1 (pt_cmpR (op_inU hr.u65) (pv 0) (pe_glob (v := .ref a_NO_NAMES) rfl m_NO_NAMES rfl) (by rfl))))) (pss_one (ps_ret pe_bl)) pss_nil)
      (pss_cons (ps_for PassesOwn.never rfl (PI.or (PI.or (pi_list (pv 0)) (pi_tup (pv 0))) (pi_str (pv 0))) (pg_name (i := 1) sc_is_name_nameforms.nd rfl (Or.inl rfl)) (pss_one (ps_if (pt_not (pt_truth (pe_cal h_is_run_character (hr.mono (by decide)) (pa_cons (pv 1) pa_nil)) (by intro _; rfl))) (pss_one (ps_ret pe_bl)) pss_nil)))
      (pss_one (ps_ret pe_bl))))))
abbrev s_first_doubtful : Stmt := top 12
theorem sc_first_doubtful : FnScope ["things", "stood", "index", "thing"] ["things"] (defScope s_first_doubtful) := ⟨rfl, rfl, rfl, by decide +kernel, rfl, by decide +kernel, by decide +kernel⟩
theorem k_first_doubtful (T : Tx K mg ca) (F : Has K mg "first_doubtful" "first_doubtful" s_first_doubtful ["things"] []) (h_is_name_nameforms : Cal P w K mg base 2 "is_name_nameforms" [] (spP ⟨K, ca⟩ 1 d_is_name_nameforms)) : Cal P w K mg base 3 "first_doubtful" [] (spP ⟨K, ca⟩ 1 d_first_doubtful) := by
  refine cal_fnP (ca := ca) (k := 2) (n := 4) rfl rfl rfl F sc_first_doubtful (by decide) (body := b_first_doubtful) fun f cdv A outer s H E hr => ?_
  exact ex_mk (sndS_seq (sndS_asgO (by decide) snd_dnew)
      (sndS_seq (sndS_for (snd_enu snd_var) (tg_tup (is := [2, 3])) (by decide) (by decide) (sndS_seq (sndS_if (snd_or (snd_not (snd_tru (Snd.rd (snd_call0 (fun _ _ h => fnP_len h) (snd_cons snd_var snd_nil))))) (snd_B (snd_din snd_var snd_own))) (sndS_ret snd_var) sndS_next)
      (sndS_put snd_var snd_bl)))
      (sndS_ret (snd_un unE_neg (Snd.rd snd_int)))))
    (pss_cons (ps_set (i := 1) sc_first_doubtful.nd rfl (Or.inl rfl) pe_dnewK)
      (pss_cons (ps_for PassesOwn.never rfl (PI.or (pi_enum rfl T.n_enumerate (pa_cons (pv 0) pa_nil)) (pi_enumT rfl T.n_enumerate (pa_cons (pv 0) pa_nil))) (pg_tup rfl (pgs_cons (pg_name (i := 2) sc_first_doubtful.nd rfl (Or.inl rfl)) (pgs_cons (pg_name (i := 3) sc_first_doubtful.nd rfl (Or.inl rfl)) pgs_nil))) (pss_cons (ps_if (PW.pt (pw_or (pt_not (pt_truth (pe_cal h_is_name_nameforms (hr.mono (by decide)) (pa_cons (pv 3) pa_nil)) (by intro _; rfl))) (pw_or1 (pt_cmp (pc_din hr.u1 (pv 3) (pv 1)))))) (pss_one (ps_ret (pv 2))) pss_nil)
      (pss_one (ps_dput hr.u1 (pv 1) (pv 3) pe_bl rfl))))
      (pss_one (ps_ret (pe_un un_neg pe_int)))))
abbrev s_members : Stmt := top 14
theorem sc_members : FnScope ["bits", "at"] ["bits"] (defScope s_members) := ⟨rfl, rfl, rfl, by decide +kernel, rfl, by decide +kernel, by decide +kernel⟩
theorem k_members (T : Tx K mg ca) (F : Has K mg "members" "members" s_members ["bits"] [])  : Cal P w K mg base 1 "members" [] (spP ⟨K, ca⟩ 1 d_members) := by
  refine cal_fnP (ca := ca) (k := 0) (n := 2) rfl rfl rfl F sc_members (by decide) (body := b_members) fun f cdv A outer s H E hr => ?_
  exact ex_mk (sndS_ret (Snd.frz (snd_comp (snd_rng1 (Snd.rd (snd_bits snd_var))) (tg_name (i := 1)) (by decide) (snd_tru (Snd.rd (snd_op opE_band (snd_op opE_shr snd_var (Snd.rd snd_var)) (Snd.rd snd_int)))) snd_var)))
    (pss_one (ps_ret (pe_lc (own := [("at", 1)]) rfl sc_members.nd (pi_range1 rfl T.n_range (pa_cons (pe_bits (pv 0)) pa_nil)) (blkOk_by (own := [("at", 1)]) (N := ["bits", "at"]) (sc := defScope s_members) (by decide +kernel)) (fun _ _ _ _ _ => (pg_name (i := 1) sc_members.nd rfl (Or.inl rfl))) (fun _ _ _ _ _ => (pts_one (pt_truth (pe_op op_and (pe_op op_shr (pv 0) (pv 1)) pe_int) (by intro _; rfl)))) (fun _ _ _ _ _ => (pv 1)))))
abbrev s_teller_bits : Stmt := top 15
theorem sc_teller_bits : FnScope ["rooms", "ties", "places", "at", "room", "bits", "teller", "hearer"] ["rooms", "ties"] (defScope s_teller_bits) := ⟨rfl, rfl, rfl, by decide +kernel, rfl, by decide +kernel, by decide +kernel⟩
theorem k_teller_bits (T : Tx K mg ca) (F : Has K mg "teller_bits" "teller_bits" s_teller_bits ["rooms", "ties"] [])  : Cal P w K mg base 1 "teller_bits" [] (spP ⟨K, ca⟩ 2 d_teller_bits) := by
  refine cal_fnP (ca := ca) (k := 0) (n := 8) rfl rfl rfl F sc_teller_bits (by decide) (body := b_teller_bits) fun f cdv A outer s H E hr => ?_
  exact ex_mk (sndS_seq (sndS_asg (by decide) (Snd.frz (snd_compD (snd_enu snd_var) (tg_tup (is := [3, 4])) (by decide) snd_yes snd_var snd_var)))
      (sndS_seq (sndS_asgO (by decide) (snd_opF opF_rep (Snd.frz (snd_lst (snd_cons snd_int snd_nil))) (Snd.rd (snd_cb1 unE_len (Snd.rd snd_var)))))
      (sndS_seq (sndS_for (snd_iSeq snd_var) (tg_tup (is := [6, 7])) (by decide) (by decide) (sndS_augL opE_ipI (snd_dget snd_var (Snd.rd snd_var)) (snd_op opE_shl snd_int (Snd.rd (snd_dget snd_var (Snd.rd snd_var))))))
      (sndS_ret (snd_cb1 unE_tuple snd_own)))))
    (pss_cons (ps_setDc (i := 2) (own := [("at", 3), ("room", 4)]) rfl sc_teller_bits.nd rfl rfl (sw_trueD rfl rfl rfl (by decide +kernel)) (PI.or (pi_enum rfl T.n_enumerate (pa_cons (pv 0) pa_nil)) (pi_enumT rfl T.n_enumerate (pa_cons (pv 0) pa_nil))) (blkOk_by (own := [("at", 3), ("room", 4)]) (N := ["rooms", "ties", "places", "at", "room", "bits", "teller", "hearer"]) (sc := defScope s_teller_bits) (by decide +kernel)) (fun _ _ _ _ _ => (pg_tup rfl (pgs_cons (pg_name (i := 3) sc_teller_bits.nd rfl (Or.inl rfl)) (pgs_cons (pg_name (i := 4) sc_teller_bits.nd rfl (Or.inl rfl)) pgs_nil)))) (fun _ _ _ _ _ => pts_nil) (fun _ _ _ _ _ => (pv 4)) (fun _ _ _ _ _ => (pv 3)))
      (pss_cons (ps_set (i := 5) sc_teller_bits.nd rfl (Or.inl rfl) (pe_op op_mulU (pe_lst (pa_cons pe_int pa_nil)) (pe_callB cr_lenU rfl T.n_len (by decide +kernel) (pa_cons (pv 0) pa_nil))))
      (pss_cons (ps_for PassesOwn.never rfl (PI.or (PI.or (pi_list (pv 1)) (pi_tup (pv 1))) (pi_str (pv 1))) (pg_tup rfl (pgs_cons (pg_name (i := 6) sc_teller_bits.nd rfl (Or.inl rfl)) (pgs_cons (pg_name (i := 7) sc_teller_bits.nd rfl (Or.inl rfl)) pgs_nil))) (pss_one (ps_augS (pv 5) (pe_dget hr.u1 (pv 2) (pv 7) (fun _ _ => rfl)) get_list (pe_op op_shl pe_int (pe_dget hr.u1 (pv 2) (pv 6) (fun _ _ => rfl))) ip_or set_list)))
      (pss_one (ps_ret (pe_callTy call_tuple_of rfl T.n_tuple (by decide +kernel) (pa_cons (pv 5) pa_nil)))))))
abbrev s_ties_in : Stmt := top 16
theorem sc_ties_in : FnScope ["rooms", "bits", "many", "one", "two"] ["rooms", "bits"] (defScope s_ties_in) := ⟨rfl, rfl, rfl, by decide +kernel, rfl, by decide +kernel, by decide +kernel⟩
theorem k_ties_in (T : Tx K mg ca) (F : Has K mg "ties_in" "ties_in" s_ties_in ["rooms", "bits"] [])  : Cal P w K mg base 1 "ties_in" [] (spP ⟨K, ca⟩ 2 d_ties_in) := by
  refine cal_fnP (ca := ca) (k := 0) (n := 5) rfl rfl rfl F sc_ties_in (by decide) (body := b_ties_in) fun f cdv A outer s H E hr => ?_
  exact ex_mk (sndS_seq (sndS_asg (by decide) (snd_cb1 unE_mkRng (Snd.rd (snd_cb1 unE_len (Snd.rd snd_var)))))
      (sndS_ret (snd_cb1 unE_tuple (Snd.frr (snd_comp2 (snd_iRng snd_var) (tg_name (i := 3)) (by decide) snd_yes (snd_iRng snd_var) (tg_name (i := 4)) (by decide) (snd_tru (Snd.rd (snd_op opE_band (snd_op opE_shr (snd_op opE_ix snd_var (Snd.rd snd_var)) (Snd.rd snd_var)) (Snd.rd snd_int)))) (snd_tup (snd_cons (snd_op opE_ix snd_var (Snd.rd snd_var)) (snd_cons (snd_op opE_ix snd_var (Snd.rd snd_var)) snd_nil))))))))
    (pss_cons (ps_set (i := 2) sc_ties_in.nd rfl (Or.inr rfl) (pe_callTy cr_range1 rfl T.n_range (by decide +kernel) (pa_cons (pe_callB cr_lenU rfl T.n_len (by decide +kernel) (pa_cons (pv 0) pa_nil)) pa_nil)))
      (pss_one (ps_ret (pe_callTy call_tuple_of rfl T.n_tuple (by decide +kernel) (pa_cons (pe_lc2 (own := [("one", 3), ("two", 4)]) (vs1 := [4]) rfl sc_ties_in.nd (pi_rngV (pv 2)) (blkOk_by (own := [("one", 3), ("two", 4)]) (N := ["rooms", "bits", "many", "one", "two"]) (sc := defScope s_ties_in) (by decide +kernel)) (by decide) (fun _ _ _ _ _ => (pg_name (i := 3) sc_ties_in.nd rfl (Or.inl rfl))) (fun _ _ _ _ _ => pts_nil) (fun _ _ _ _ _ => (pi_rngV (pv 2))) (fun _ _ _ _ _ => (pg_name (i := 4) sc_ties_in.nd rfl (Or.inl rfl))) (fun _ _ _ _ _ => (pts_one (pt_truth (pe_op op_and (pe_op op_shr (pe_ix ix_seq (pv 1) (pv 4) (fun _ _ => rfl)) (pv 3)) pe_int) (by intro _; rfl)))) (fun _ _ _ _ _ => (pe_tup (pa_cons (pe_ix ix_seq (pv 0) (pv 3) (fun _ _ => rfl)) (pa_cons (pe_ix ix_seq (pv 0) (pv 4) (fun _ _ => rfl)) pa_nil))))) pa_nil)))))
abbrev s_name_of : Stmt := top 18
theorem sc_name_of : FnScope ["thing"] ["thing"] (defScope s_name_of) := ⟨rfl, rfl, rfl, by decide +kernel, rfl, by decide +kernel, by decide +kernel⟩
theorem k_name_of (T : Tx K mg ca) (F : Has K mg "name_of" "name_of" s_name_of ["thing"] []) (h_is_name_nameforms : Cal P w K mg base 2 "is_name_nameforms" [] (spP ⟨K, ca⟩ 1 d_is_name_nameforms)) : Cal P w K mg base 3 "name_of" [] (spP ⟨K, ca⟩ 1 d_name_of) := by
  refine cal_fnP (ca := ca) (k := 2) (n := 1) rfl rfl rfl F sc_name_of (by decide) (body := b_name_of) fun f cdv A outer s H E hr => ?_
  exact ex_mk (sndS_seq (sndS_if (snd_not (snd_tru (Snd.rd (snd_call0 (fun _ _ h => fnP_len h) (snd_cons snd_var snd_nil))))) sndS_never sndS_next)
      (sndS_ret snd_var))
    (pss_cons (ps_if (pt_not (pt_truth (pe_cal h_is_name_nameforms (hr.mono (by decide)) (pa_cons (pv 0) pa_nil)) (by intro _; rfl))) (pss_one ps_never) pss_nil)
      (pss_one (ps_ret (pv 0))))
abbrev s_names_of : Stmt := top 19
theorem sc_names_of : FnScope ["things", "index"] ["things"] (defScope s_names_of) := ⟨rfl, rfl, rfl, by decide +kernel, rfl, by decide +kernel, by decide +kernel⟩
theorem k_names_of (T : Tx K mg ca) (F : Has K mg "names_of" "names_of" s_names_of ["things"] []) (h_first_doubtful : Cal P w K mg base 3 "first_doubtful" [] (spP ⟨K, ca⟩ 1 d_first_doubtful)) : Cal P w K mg base 4 "names_of" [] (spP ⟨K, ca⟩ 1 d_names_of) := by
  refine cal_fnP (ca := ca) (k := 3) (n := 2) rfl rfl rfl F sc_names_of (by decide) (body := b_names_of) fun f cdv A outer s H E hr => ?_
  exact ex_mk (sndS_seq (sndS_asg (by decide) (snd_call0 (fun _ _ h => fnP_len h) (snd_cons snd_var snd_nil)))
      (sndS_seq (sndS_if (snd_test (snd_op opE_ge snd_var (Snd.rd snd_int))) sndS_never sndS_next)
      (sndS_ret (snd_cb1 unE_tuple (Snd.rd snd_var)))))
    (pss_cons (ps_set (i := 1) sc_names_of.nd rfl (Or.inl rfl) (pe_cal h_first_doubtful (hr.mono (by decide)) (pa_cons (pv 0) pa_nil)))
      (pss_cons (ps_if (pt_cmpR op_ge (pv 1) pe_int (nomark _)) (pss_one ps_never) pss_nil)
      (pss_one (ps_ret (pe_callTy call_tuple_of rfl T.n_tuple (by decide +kernel) (pa_cons (pv 0) pa_nil))))))
abbrev s_check_length : Stmt := top 22
theorem sc_check_length : FnScope ["text"] ["text"] (defScope s_check_length) := ⟨rfl, rfl, rfl, by decide +kernel, rfl, by decide +kernel, by decide +kernel⟩
theorem k_check_length (T : Tx K mg ca) (F : Has K mg "check_length" "check_length" s_check_length ["text"] [])  : Cal P w K mg base 1 "check_length" [] (spP ⟨K, ca⟩ 1 d_check_length) := by
  obtain ⟨t_TEXT_LIMIT, m_TEXT_LIMIT⟩ := T.c_TEXT_LIMIT
  refine cal_fnP (ca := ca) (k := 0) (n := 1) rfl rfl rfl F sc_check_length (by decide) (body := b_check_length) fun f cdv A outer s H E hr => ?_
  exact ex_mk (sndS_if (snd_test (snd_op opE_gt (snd_cb1 unE_len (Snd.rd snd_var)) (Snd.rd snd_int))) sndS_never sndS_next)
    (pss_one (ps_if (pt_cmpR op_gt (pe_callB cr_lenU rfl T.n_len (by decide +kernel) (pa_cons (pv 0) pa_nil)) (pe_glob (v := .int 200000) rfl m_TEXT_LIMIT ⟨_, rfl⟩) (nomark _)) (pss_one ps_never) pss_nil))
abbrev s_is_name : Stmt := top 23
theorem sc_is_name : FnScope ["thing"] ["thing"] (defScope s_is_name) := ⟨rfl, rfl, rfl, by decide +kernel, rfl, by decide +kernel, by decide +kernel⟩
theorem k_is_name (T : Tx K mg ca) (F : Has K mg "is_name" "is_name" s_is_name ["thing"] []) (h_name_of : Cal P w K mg base 3 "name_of" [] (spP ⟨K, ca⟩ 1 d_name_of)) : Cal P w K mg base 4 "is_name" [] (spP ⟨K, ca⟩ 1 d_is_name) := by
  obtain ⟨a_BadName, m_BadName⟩ := T.e_BadName
  refine cal_fnP (ca := ca) (k := 3) (n := 1) rfl rfl rfl F sc_is_name (by decide) (body := b_is_name) fun f cdv A outer s H E hr => ?_
  exact ex_mk (sndS_seq (sndS_drop (snd_call0 (fun _ _ h => fnP_len h) (snd_cons snd_var snd_nil)))
      (sndS_ret snd_bl))
    (pss_cons (ps_try_q ⟨rfl, by decide, .inl m_BadName⟩ (fun _ _ => (pss_one (ps_expr (pe_cal h_name_of (hr.mono (by decide)) (pa_cons (pv 0) pa_nil))))))
      (pss_one (ps_ret pe_bl)))
abbrev s_is_name_wordlooks : Stmt := top 23
theorem sc_is_name_wordlooks : FnScope ["thing"] ["thing"] (defScope s_is_name_wordlooks) := ⟨rfl, rfl, rfl, by decide +kernel, rfl, by decide +kernel, by decide +kernel⟩
theorem k_is_name_wordlooks (T : Tx K mg ca) (F : Has K mg "is_name_wordlooks" "is_name" s_is_name_wordlooks ["thing"] []) (h_name_of : Cal P w K mg base 3 "name_of" [] (spP ⟨K, ca⟩ 1 d_name_of)) : Cal P w K mg base 4 "is_name_wordlooks" [] (spP ⟨K, ca⟩ 1 d_is_name_wordlooks) := by
  obtain ⟨a_BadName, m_BadName⟩ := T.e_BadName
  refine cal_fnP (ca := ca) (k := 3) (n := 1) rfl rfl rfl F sc_is_name_wordlooks (by decide) (body := b_is_name_wordlooks) fun f cdv A outer s H E hr => ?_
  exact ex_mk (sndS_seq (sndS_drop (snd_call0 (fun _ _ h => fnP_len h) (snd_cons snd_var snd_nil)))
      (sndS_ret snd_bl))
    (pss_cons (ps_try_q ⟨rfl, by decide, .inl m_BadName⟩ (fun _ _ => (pss_one (ps_expr (pe_cal h_name_of (hr.mono (by decide)) (pa_cons (pv 0) pa_nil))))))
      (pss_one (ps_ret pe_bl)))
abbrev s_is_lot : Stmt := top 26
theorem sc_is_lot : FnScope ["bits", "lot", "used", "room"] ["bits", "lot"] (defScope s_is_lot) := ⟨rfl, rfl, rfl, by decide +kernel, rfl, by decide +kernel, by decide +kernel⟩
theorem k_is_lot (T : Tx K mg ca) (F : Has K mg "is_lot" "is_lot" s_is_lot ["bits", "lot"] []) (h_members : Cal P w K mg base 1 "members" [] (spP ⟨K, ca⟩ 1 d_members)) : Cal P w K mg base 2 "is_lot" [] (spP ⟨K, ca⟩ 2 d_is_lot) := by
  refine cal_fnP (ca := ca) (k := 1) (n := 4) rfl rfl rfl F sc_is_lot (by decide) (body := b_is_lot) fun f cdv A outer s H E hr => ?_
  exact ex_mk (sndS_seq (sndS_asg (by decide) snd_int)
      (sndS_seq (sndS_for (snd_iSeq (snd_call0 (fun _ _ h => fnP_len h) (snd_cons snd_var snd_nil))) (tg_name (i := 3)) (by decide) (by decide) (sndS_seq (sndS_if (snd_or (snd_test (snd_op opE_eq (snd_op opE_ix snd_var (Snd.rd snd_var)) (Snd.rd snd_int))) (snd_tru (Snd.rd (snd_op opE_band (snd_op opE_ix snd_var (Snd.rd snd_var)) (Snd.rd snd_var))))) (sndS_ret snd_bl) sndS_next)
      (sndS_aug (by decide) opE_ipI (snd_op opE_ix snd_var (Snd.rd snd_var)))))
      (sndS_ret (snd_andV (snd_op opE_ne snd_var (Snd.rd snd_int)) (snd_op opE_eq (snd_op opE_band snd_var (Snd.rd (snd_un unE_inv (Snd.rd snd_var)))) (Snd.rd snd_int))))))
    (pss_cons (ps_set (i := 2) sc_is_lot.nd rfl (Or.inl rfl) pe_int)
      (pss_cons (ps_for PassesOwn.never rfl (PI.or (PI.or (pi_list (pe_cal h_members (hr.mono (by decide)) (pa_cons (pv 1) pa_nil))) (pi_tup (pe_cal h_members (hr.mono (by decide)) (pa_cons (pv 1) pa_nil)))) (pi_str (pe_cal h_members (hr.mono (by decide)) (pa_cons (pv 1) pa_nil)))) (pg_name (i := 3) sc_is_lot.nd rfl (Or.inl rfl)) (pss_cons (ps_if (PW.pt (pw_or (pt_cmpR (op_eqD hr.u64) (pe_ix ix_seq (pv 0) (pv 3) (fun _ _ => rfl)) pe_int (nomark _)) (pw_or1 (pt_truth (pe_op op_and (pe_ix ix_seq (pv 0) (pv 3) (fun _ _ => rfl)) (pv 2)) (by intro _; rfl))))) (pss_one (ps_ret pe_bl)) pss_nil)
      (pss_one (ps_aug (i := 2) sc_is_lot.nd rfl (Or.inl rfl) (pe_ix ix_seq (pv 0) (pv 3) (fun _ _ => rfl)) ip_or))))
      (pss_one (ps_ret (pe_and (pe_cmpR (op_neD hr.u64) (pv 1) pe_int (nomark _)) (pe_one (pe_cmpR (op_eqD hr.u64) (pe_op op_and (pv 1) (pe_un un_inv (pv 2))) pe_int (nomark _))))))))
abbrev s_lots_in : Stmt := top 27
theorem sc_lots_in : FnScope ["bits", "lot"] ["bits"] (defScope s_lots_in) := ⟨rfl, rfl, rfl, by decide +kernel, rfl, by decide +kernel, by decide +kernel⟩
theorem k_lots_in (T : Tx K mg ca) (F : Has K mg "lots_in" "lots_in" s_lots_in ["bits"] []) (h_is_lot : Cal P w K mg base 2 "is_lot" [] (spP ⟨K, ca⟩ 2 d_is_lot)) : Cal P w K mg base 3 "lots_in" [] (spP ⟨K, ca⟩ 1 d_lots_in) := by
  refine cal_fnP (ca := ca) (k := 2) (n := 2) rfl rfl rfl F sc_lots_in (by decide) (body := b_lots_in) fun f cdv A outer s H E hr => ?_
  exact ex_mk (sndS_ret (Snd.frz (snd_comp (snd_rng2 snd_int (Snd.rd (snd_op opE_shl snd_int (Snd.rd (snd_cb1 unE_len (Snd.rd snd_var)))))) (tg_name (i := 1)) (by decide) (snd_tru (Snd.rd (snd_call0 (fun _ _ h => fnP_len h) (snd_cons snd_var (snd_cons snd_var snd_nil))))) snd_var)))
    (pss_one (ps_ret (pe_lc (own := [("lot", 1)]) rfl sc_lots_in.nd (pi_range2 rfl T.n_range (pa_cons pe_int (pa_cons (pe_op op_shl pe_int (pe_callB cr_lenU rfl T.n_len (by decide +kernel) (pa_cons (pv 0) pa_nil))) pa_nil))) (blkOk_by (own := [("lot", 1)]) (N := ["bits", "lot"]) (sc := defScope s_lots_in) (by decide +kernel)) (fun _ _ _ _ _ => (pg_name (i := 1) sc_lots_in.nd rfl (Or.inl rfl))) (fun _ _ _ _ _ => (pts_one (pt_truth (pe_cal h_is_lot (hr.mono (by decide)) (pa_cons (pv 0) (pa_cons (pv 1) pa_nil))) (by intro _; rfl)))) (fun _ _ _ _ _ => (pv 1)))))
abbrev s_ties_of_words : Stmt := top 31
theorem sc_ties_of_words : FnScope ["words", "ties", "at"] ["words"] (defScope s_ties_of_words) := ⟨rfl, rfl, rfl, by decide +kernel, rfl, by decide +kernel, by decide +kernel⟩
theorem k_ties_of_words (T : Tx K mg ca) (F : Has K mg "ties_of_words" "ties_of_words" s_ties_of_words ["words"] []) (h_is_name_wordlooks : Cal P w K mg base 4 "is_name_wordlooks" [] (spP ⟨K, ca⟩ 1 d_is_name_wordlooks)) : Cal P w K mg base 5 "ties_of_words" [] (spP ⟨K, ca⟩ 1 d_ties_of_words) := by
  refine cal_fnP (ca := ca) (k := 4) (n := 3) rfl rfl rfl F sc_ties_of_words (by decide) (body := b_ties_of_words) fun f cdv A outer s H E hr => ?_
  exact ex_mk (sndS_seq (sndS_if (snd_not (snd_tru (Snd.rd snd_var))) (sndS_ret (Snd.frz snd_lnew)) sndS_next)
      (sndS_seq (sndS_if (snd_test (snd_op opE_ne (snd_op opE_mod (snd_cb1 unE_len (Snd.rd snd_var)) (Snd.rd snd_int)) (Snd.rd snd_int))) (sndS_ret snd_non) sndS_next)
      (sndS_seq (sndS_asgO (by decide) snd_lnew)
      (sndS_seq (sndS_for (snd_rng3 snd_int (snd_cb1 unE_len (Snd.rd snd_var)) snd_int) (tg_name (i := 2)) (by decide) (by decide) (sndS_seq (sndS_if (snd_or (snd_test (snd_op opE_ne (snd_op opE_ix snd_var (Snd.rd (snd_op opE_add snd_var (Snd.rd snd_int)))) (Snd.rd snd_str))) (snd_or (snd_not (snd_tru (Snd.rd (snd_call0 (fun _ _ h => fnP_len h) (snd_cons (snd_op opE_ix snd_var (Snd.rd snd_var)) snd_nil))))) (snd_not (snd_tru (Snd.rd (snd_call0 (fun _ _ h => fnP_len h) (snd_cons (snd_op opE_ix snd_var (Snd.rd (snd_op opE_add snd_var (Snd.rd snd_int)))) snd_nil))))))) (sndS_ret snd_non) sndS_next)
      (sndS_seq (sndS_if (snd_and (snd_test (snd_op opE_lt (snd_op opE_add snd_var (Snd.rd snd_int)) (Snd.rd (snd_cb1 unE_len (Snd.rd snd_var))))) (snd_test (snd_op opE_ne (snd_op opE_ix snd_var (Snd.rd (snd_op opE_add snd_var (Snd.rd snd_int)))) (Snd.rd snd_str)))) (sndS_ret snd_non) sndS_next)
      (sndS_drop (snd_app (snd_tup (snd_cons (snd_op opE_ix snd_var (Snd.rd snd_var)) (snd_cons (snd_op opE_ix snd_var (Snd.rd (snd_op opE_add snd_var (Snd.rd snd_int)))) snd_nil))))))))
      (sndS_frz (by decide) (sndS_ret snd_var))))))
    (pss_cons (ps_if (pt_not (pt_truth (pv 0) (by intro _; rfl))) (pss_one (ps_ret (pe_lst pa_nil))) pss_nil)
      (pss_cons (ps_if (pt_cmpR (op_neD hr.u64) (pe_op op_mod (pe_callB cr_lenU rfl T.n_len (by decide +kernel) (pa_cons (pv 0) pa_nil)) pe_int) pe_int (nomark _)) (pss_one (ps_ret pe_non)) pss_nil)
      (pss_cons (ps_set (i := 1) sc_ties_of_words.nd rfl (Or.inl rfl) (pe_lst pa_nil))
      (pss_cons (ps_for PassesOwn.never rfl (pi_range3 rfl T.n_range (pa_cons pe_int (pa_cons (pe_callB cr_lenU rfl T.n_len (by decide +kernel) (pa_cons (pv 0) pa_nil)) (pa_cons pe_int pa_nil)))) (pg_name (i := 2) sc_ties_of_words.nd rfl (Or.inl rfl)) (pss_cons (ps_if (PW.pt (pw_or (pt_cmpR (op_neD hr.u64) (pe_ix ix_seq (pv 0) (pe_op op_addU (pv 2) pe_int) (fun _ _ => rfl)) pe_str (nomark _)) (pw_or (pt_not (pt_truth (pe_cal h_is_name_wordlooks (hr.mono (by decide)) (pa_cons (pe_ix ix_seq (pv 0) (pv 2) (fun _ _ => rfl)) pa_nil)) (by intro _; rfl))) (pw_or1 (pt_not (pt_truth (pe_cal h_is_name_wordlooks (hr.mono (by decide)) (pa_cons (pe_ix ix_seq (pv 0) (pe_op op_addU (pv 2) pe_int) (fun _ _ => rfl)) pa_nil)) (by intro _; rfl))))))) (pss_one (ps_ret pe_non)) pss_nil)
      (pss_cons (ps_if (PW.pt (pw_and (pt_cmpR op_lt (pe_op op_addU (pv 2) pe_int) (pe_callB cr_lenU rfl T.n_len (by decide +kernel) (pa_cons (pv 0) pa_nil)) (nomark _)) (pw_and1 (pt_cmpR (op_neD hr.u64) (pe_ix ix_seq (pv 0) (pe_op op_addU (pv 2) pe_int) (fun _ _ => rfl)) pe_str (nomark _))))) (pss_one (ps_ret pe_non)) pss_nil)
      (pss_one (ps_expr (pe_bm PySem.F.plainAttrs_list PySem.F.slot_list_append PySem.F.type_list_append mt_append (pv 1) (pa_cons (pe_tup (pa_cons (pe_ix ix_seq (pv 0) (pv 2) (fun _ _ => rfl)) (pa_cons (pe_ix ix_seq (pv 0) (pe_op op_addU (pv 2) pe_int) (fun _ _ => rfl)) pa_nil))) pa_nil)))))))
      (pss_one (ps_ret (pv 1)))))))
abbrev s_ties_text : Stmt := top 32
theorem sc_ties_text : FnScope ["ties", "teller", "hearer"] ["ties"] (defScope s_ties_text) := ⟨rfl, rfl, rfl, by decide +kernel, rfl, by decide +kernel, by decide +kernel⟩
theorem k_ties_text (T : Tx K mg ca) (F : Has K mg "ties_text" "ties_text" s_ties_text ["ties"] [])  : Cal P w K mg base 1 "ties_text" [] (spP ⟨K, ca⟩ 1 d_ties_text) := by
  refine cal_fnP (ca := ca) (k := 0) (n := 3) rfl rfl rfl F sc_ties_text (by decide) (body := b_ties_text) fun f cdv A outer s H E hr => ?_
  exact ex_mk (sndS_ret (snd_join snd_str (Snd.frr (snd_comp (snd_iSeq snd_var) (tg_tup (is := [1, 2])) (by decide) snd_yes (snd_joined (.cons (snd_fmt snd_var) (.cons snd_str (.cons (snd_fmt snd_var) .nil))))))))
    (pss_one (ps_ret (pe_join pe_str (pe_lc (own := [("teller", 1), ("hearer", 2)]) rfl sc_ties_text.nd (PI.or (PI.or (pi_list (pv 0)) (pi_tup (pv 0))) (pi_str (pv 0))) (blkOk_by (own := [("teller", 1), ("hearer", 2)]) (N := ["ties", "teller", "hearer"]) (sc := defScope s_ties_text) (by decide +kernel)) (fun _ _ _ _ _ => (pg_tup rfl (pgs_cons (pg_name (i := 1) sc_ties_text.nd rfl (Or.inl rfl)) (pgs_cons (pg_name (i := 2) sc_ties_text.nd rfl (Or.inl rfl)) pgs_nil)))) (fun _ _ _ _ _ => pts_nil) (fun _ _ _ _ _ => (pe_joined (.cons (pe_fmt (pv 1)) (.cons pe_str (.cons (pe_fmt (pv 2)) .nil)))))))))
abbrev s_web_text : Stmt := top 33
theorem sc_web_text : FnScope ["rooms", "ties", "head"] ["rooms", "ties"] (defScope s_web_text) := ⟨rfl, rfl, rfl, by decide +kernel, rfl, by decide +kernel, by decide +kernel⟩
theorem k_web_text (T : Tx K mg ca) (F : Has K mg "web_text" "web_text" s_web_text ["rooms", "ties"] []) (h_ties_text : Cal P w K mg base 1 "ties_text" [] (spP ⟨K, ca⟩ 1 d_ties_text)) : Cal P w K mg base 2 "web_text" [] (spP ⟨K, ca⟩ 2 d_web_text) := by
  refine cal_fnP (ca := ca) (k := 1) (n := 3) rfl rfl rfl F sc_web_text (by decide) (body := b_web_text) fun f cdv A outer s H E hr => ?_
  exact ex_mk (sndS_seq (sndS_asg (by decide) (snd_join snd_str (Snd.frr (snd_lst (snd_star snd_var (snd_cons snd_str snd_nil))))))
      (sndS_ret (snd_if (snd_tru (Snd.rd snd_var)) (snd_joined (.cons (snd_fmt snd_var) (.cons snd_str (.cons (snd_fmt (snd_call0 (fun _ _ h => fnP_len h) (snd_cons snd_var snd_nil))) .nil)))) snd_var)))
    (pss_cons (ps_set (i := 2) sc_web_text.nd rfl (Or.inl rfl) (pe_join pe_str (pe_lst (StX.pa_star (pv 0) (pa_cons pe_str pa_nil)))))
      (pss_one (ps_ret (pe_ifExp (pt_truth (pv 1) (by intro _; rfl)) (pe_joined (.cons (pe_fmt (pv 2)) (.cons pe_str (.cons (pe_fmt (pe_cal h_ties_text (hr.mono (by decide)) (pa_cons (pv 1) pa_nil))) .nil)))) (pv 2)))))
abbrev s_checked_rooms : Stmt := top 34
theorem sc_checked_rooms : FnScope ["rooms", "names", "e"] ["rooms"] (defScope s_checked_rooms) := ⟨rfl, rfl, rfl, by decide +kernel, rfl, by decide +kernel, by decide +kernel⟩
theorem k_checked_rooms (T : Tx K mg ca) (F : Has K mg "checked_rooms" "checked_rooms" s_checked_rooms ["rooms"] []) (h_names_of : Cal P w K mg base 4 "names_of" [] (spP ⟨K, ca⟩ 1 d_names_of)) : Cal P w K mg base 5 "checked_rooms" [] (spP ⟨K, ca⟩ 1 d_checked_rooms) := by
  obtain ⟨t_WEB_ROOMS, m_WEB_ROOMS⟩ := T.c_WEB_ROOMS
  obtain ⟨a_BadName, m_BadName⟩ := T.e_BadName
  refine cal_fnP (ca := ca) (k := 4) (n := 3) rfl rfl rfl F sc_checked_rooms (by decide) (body := b_checked_rooms) fun f cdv A outer s H E hr => ?_
  exact ex_mk (sndS_seq (sndS_asg (by decide) (snd_call0 (fun _ _ h => fnP_len h) (snd_cons snd_var snd_nil)))
      (sndS_seq (sndS_if (snd_test (snd_op opE_gt (snd_cb1 unE_len (Snd.rd snd_var)) (Snd.rd snd_int))) sndS_never sndS_next)
      (sndS_ret snd_var)))
    (pss_cons (ps_try_qn (i := 2) sc_checked_rooms.nd rfl ⟨rfl, by decide, .inl m_BadName⟩ (fun _ _ => (pss_one (ps_set (i := 1) sc_checked_rooms.nd rfl (Or.inl rfl) (pe_cal h_names_of (hr.mono (by decide)) (pa_cons (pv 0) pa_nil))))))
      (pss_cons (ps_if (pt_cmpR op_gt (pe_callB cr_lenU rfl T.n_len (by decide +kernel) (pa_cons (pv 1) pa_nil)) (pe_glob (v := .int 12) rfl m_WEB_ROOMS ⟨_, rfl⟩) (nomark _)) (pss_one ps_never) pss_nil)
      (pss_one (ps_ret (pv 1)))))
abbrev s_ordered_ties : Stmt := top 35
theorem sc_ordered_ties : FnScope ["rooms", "ties", "teller", "hearer"] ["rooms", "ties"] (defScope s_ordered_ties) := ⟨rfl, rfl, rfl, by decide +kernel, rfl, by decide +kernel, by decide +kernel⟩
theorem k_ordered_ties (T : Tx K mg ca) (F : Has K mg "ordered_ties" "ordered_ties" s_ordered_ties ["rooms", "ties"] []) (h_ties_in : Cal P w K mg base 1 "ties_in" [] (spP ⟨K, ca⟩ 2 d_ties_in)) (h_teller_bits : Cal P w K mg base 1 "teller_bits" [] (spP ⟨K, ca⟩ 2 d_teller_bits)) : Cal P w K mg base 2 "ordered_ties" [] (spP ⟨K, ca⟩ 2 d_ordered_ties) := by
  refine cal_fnP (ca := ca) (k := 1) (n := 4) rfl rfl rfl F sc_ordered_ties (by decide) (body := b_ordered_ties) fun f cdv A outer s H E hr => ?_
  exact ex_mk (sndS_seq (sndS_for (snd_iSeq snd_var) (tg_tup (is := [2, 3])) (by decide) (by decide) (sndS_if (snd_or (snd_test (snd_op opE_notIn snd_var (Snd.rd snd_var))) (snd_test (snd_op opE_notIn snd_var (Snd.rd snd_var)))) sndS_never sndS_next))
      (sndS_ret (snd_call0 (fun _ _ h => fnP_len h) (snd_cons snd_var (snd_cons (snd_call0 (fun _ _ h => fnP_len h) (snd_cons snd_var (snd_cons snd_var snd_nil))) snd_nil)))))
    (pss_cons (ps_for PassesOwn.never rfl (PI.or (PI.or (pi_list (pv 1)) (pi_tup (pv 1))) (pi_str (pv 1))) (pg_tup rfl (pgs_cons (pg_name (i := 2) sc_ordered_ties.nd rfl (Or.inl rfl)) (pgs_cons (pg_name (i := 3) sc_ordered_ties.nd rfl (Or.inl rfl)) pgs_nil))) (pss_one (ps_if (PW.pt (pw_or (pt_cmpR (op_notInU hr.u65) (pv 2) (pv 0) (by rfl)) (pw_or1 (pt_cmpR (op_notInU hr.u65) (pv 3) (pv 0) (by rfl))))) (pss_one ps_never) pss_nil)))
      (pss_one (ps_ret (pe_cal h_ties_in (hr.mono (by decide)) (pa_cons (pv 0) (pa_cons (pe_cal h_teller_bits (hr.mono (by decide)) (pa_cons (pv 0) (pa_cons (pv 1) pa_nil))) pa_nil))))))
abbrev s_lots_of : Stmt := top 40
theorem sc_lots_of : GScope ["web", "bits", "lot", "at"] ["web"] (defScope s_lots_of) := ⟨rfl, rfl, rfl, by decide +kernel, rfl, by decide +kernel, by decide +kernel⟩
theorem k_lots_of (T : Tx K mg ca) (F : Has K mg "lots_of" "lots_of" s_lots_of ["web"] []) (h_teller_bits : Cal P w K mg base 1 "teller_bits" [] (spP ⟨K, ca⟩ 2 d_teller_bits)) (h_lots_in : Cal P w K mg base 3 "lots_in" [] (spP ⟨K, ca⟩ 1 d_lots_in)) (h_members : Cal P w K mg base 1 "members" [] (spP ⟨K, ca⟩ 1 d_members)) : CalY P w K mg base 4 "lots_of" [] 1 (spY ⟨K, ca⟩ 1 d_lots_of) := by
  refine cal_fnY (ca := ca) (k := 3) (n := 4) rfl rfl rfl F sc_lots_of (by decide) (body := b_lots_of) fun f cdv X cp L a go hr => ?_
  exact ex_mkY (sndY_seq (sndY_p (W := W0) (fx := []) (sndS_asg (by decide) (snd_call0 (fun _ _ h => fnP_len h) (snd_cons (snd_fld (C := 3) T.cl_Web T.na_Web_rooms (Snd.rd snd_var)) (snd_cons (snd_fld (C := 3) T.cl_Web T.na_Web_ties (Snd.rd snd_var)) snd_nil)))))
      (sndY_seq (sndY_for (W := W0) (snd_iSeq (snd_call0 (fun _ _ h => fnP_len h) (snd_cons snd_var snd_nil))) (tg_name (i := 2)) (sndY_seq (sndY_yield (W := W0) (snd_cb1 unE_tuple (Snd.frr (snd_comp (snd_iSeq (snd_call0 (fun _ _ h => fnP_len h) (snd_cons snd_var snd_nil))) (tg_name (i := 3)) (by decide) snd_yes (snd_op opE_ix (snd_fld (C := 3) T.cl_Web T.na_Web_rooms (Snd.rd snd_var)) (Snd.rd snd_var))))))
      sndY_0))
      sndY_0))
    (gsys_cons (gsy_ps fun _ _ => (ps_set (i := 1) sc_lots_of.nd rfl (Or.inl rfl) (pe_cal h_teller_bits (hr.mono (by decide)) (pa_cons (pe_fld (pv 0) rfl) (pa_cons (pe_fld (pv 0) rfl) pa_nil)))))
      (gsys_cons (gsy_for (fun _ _ => (PI.or (PI.or (pi_list (pe_cal h_lots_in (hr.mono (by decide)) (pa_cons (pv 1) pa_nil))) (pi_tup (pe_cal h_lots_in (hr.mono (by decide)) (pa_cons (pv 1) pa_nil)))) (pi_str (pe_cal h_lots_in (hr.mono (by decide)) (pa_cons (pv 1) pa_nil))))) (fun _ _ => (pg_name (i := 2) sc_lots_of.nd rfl (Or.inl rfl))) (gsys_cons (gsy_yield fun _ _ => (pe_callTy call_tuple_of rfl T.n_tuple (by decide +kernel) (pa_cons (pe_lc (own := [("at", 3)]) rfl sc_lots_of.nd (PI.or (PI.or (pi_list (pe_cal h_members (hr.mono (by decide)) (pa_cons (pv 2) pa_nil))) (pi_tup (pe_cal h_members (hr.mono (by decide)) (pa_cons (pv 2) pa_nil)))) (pi_str (pe_cal h_members (hr.mono (by decide)) (pa_cons (pv 2) pa_nil)))) (blkOk_by (own := [("at", 3)]) (N := ["web", "bits", "lot", "at"]) (sc := defScope s_lots_of) (by decide +kernel)) (fun _ _ _ _ _ => (pg_name (i := 3) sc_lots_of.nd rfl (Or.inl rfl))) (fun _ _ _ _ _ => pts_nil) (fun _ _ _ _ _ => (pe_ix ix_seq (pe_fld (pv 0) rfl) (pv 3) (fun _ _ => rfl)))) pa_nil)))
      gsys_nil))
      gsys_nil))
abbrev s__law_bag : Stmt := top 42
theorem sc__law_bag : FnScope ["script", "mixed", "cell"] ["script"] (defScope s__law_bag) := ⟨rfl, rfl, rfl, by decide +kernel, rfl, by decide +kernel, by decide +kernel⟩
theorem k__law_bag (T : Tx K mg ca) (F : Has K mg "_law_bag" "_law_bag" s__law_bag ["script"] [])  : Cal P w K mg base 1 "_law_bag" [] (spF ⟨K, ca⟩ 1 d__law_bag) := by
  refine cal_fnF (ca := ca) (k := 0) (n := 3) rfl rfl rfl F sc__law_bag (by decide) (init := b__law_bag) (last := l__law_bag) (noRt_seq (noRt_asg) (noRt_for noRt_tgN (noRt_asg))) fun f cdv A outer s H E hr => ?_
  exact ex_mkF (sndS_seq (sndS_asg (by decide) snd_int)
      (sndS_for (snd_iSeq (snd_slE slE_U snd_var snd_oNone (snd_oSome snd_int))) (tg_name (i := 2)) (by decide) (by decide) (sndS_asg (by decide) (snd_op opE_mod (snd_cb1 unE_int (Snd.rd (snd_op opE_add (snd_op opE_add (snd_op opE_mul snd_var (Snd.rd snd_int)) (Snd.rd (snd_op opE_mod (snd_cb1 unE_int (Snd.rd snd_var)) (Snd.rd snd_int)))) (Snd.rd snd_int)))) (Snd.rd snd_int)))))
    (snd_lst (snd_cons (Snd.frz (snd_cb1F unF_list (Snd.rd (snd_slE slE_U snd_var snd_oNone (snd_oSome snd_int))))) (snd_cons snd_int (snd_cons snd_int (snd_cons snd_int (snd_cons snd_var snd_nil))))))
    (pss_assoc (pss_cons (ps_set (i := 1) sc__law_bag.nd rfl (Or.inl rfl) pe_int)
      (pss_cons (ps_for PassesOwn.never rfl (PI.or (PI.or (pi_list (pe_slice sl_U (pv 0) po_none (po_some pe_int))) (pi_tup (pe_slice sl_U (pv 0) po_none (po_some pe_int)))) (pi_str (pe_slice sl_U (pv 0) po_none (po_some pe_int)))) (pg_name (i := 2) sc__law_bag.nd rfl (Or.inl rfl)) (pss_one (ps_set (i := 1) sc__law_bag.nd rfl (Or.inl rfl) (pe_op op_mod (pe_callTy call_int1 rfl T.n_int (by decide +kernel) (pa_cons (pe_op op_addU (pe_op op_addU (pe_op op_mulU (pv 1) pe_int) (pe_op op_mod (pe_callTy call_int1 rfl T.n_int (by decide +kernel) (pa_cons (pv 2) pa_nil)) pe_int)) pe_int) pa_nil)) pe_int))))
      (pss_one (ps_ret (pe_lst (pa_cons (pe_callTy call_list_of rfl T.n_list (by decide +kernel) (pa_cons (pe_slice sl_U (pv 0) po_none (po_some pe_int)) pa_nil)) (pa_cons pe_int (pa_cons pe_int (pa_cons pe_int (pa_cons (pv 1) pa_nil)))))))))))
abbrev s__law_draw : Stmt := top 43
theorem sc__law_draw : FnScope ["bag", "limit", "cell", "digit", "seed"] ["bag", "limit"] (defScope s__law_draw) := ⟨rfl, rfl, rfl, by decide +kernel, rfl, by decide +kernel, by decide +kernel⟩
theorem k__law_draw (T : Tx K mg ca) (F : Has K mg "_law_draw" "_law_draw" s__law_draw ["bag", "limit"] [])  : Cal P w K mg base 1 "_law_draw" [] (spI ⟨K, ca⟩ 2 d__law_draw) := by
  refine cal_fnI (ca := ca) (k := 0) (n := 5) rfl rfl rfl F sc__law_draw (by decide) (body := b__law_draw) fun f cdv A outer s H E hr => ?_
  exact ex_mk (sndS_seq (sndS_setL snd_int (snd_op opE_add (snd_opO opE_ix (Snd.rd snd_int)) (Snd.rd snd_int)))
      (sndS_seq (sndS_if (snd_and (snd_test (snd_op opE_eq (snd_opO opE_ix (Snd.rd snd_int)) (Snd.rd snd_int))) (snd_test (snd_op opE_lt (snd_opO opE_ix (Snd.rd snd_int)) (Snd.rd (snd_cb1 unE_len (Snd.rd (snd_opO opE_ix (Snd.rd snd_int)))))))) (sndS_seq (sndS_asg (by decide) (snd_cb1 unE_int (Snd.rd (snd_op opE_ix (snd_opO opE_ix (Snd.rd snd_int)) (Snd.rd (snd_opO opE_ix (Snd.rd snd_int)))))))
      (sndS_seq (sndS_setL snd_int (snd_op opE_add (snd_opO opE_ix (Snd.rd snd_int)) (Snd.rd snd_int)))
      (sndS_if (snd_test (snd_op opE_ge snd_var (Snd.rd (snd_op opE_pow snd_int (Snd.rd snd_int))))) (sndS_setL snd_int snd_var) (sndS_setL snd_int (snd_op opE_mod (snd_cb1 unE_int (Snd.rd (snd_op opE_add (snd_op opE_add (snd_op opE_mul (snd_opO opE_ix (Snd.rd snd_int)) (Snd.rd snd_int)) (Snd.rd (snd_op opE_mul (snd_op opE_mod (snd_cb1 unE_int (Snd.rd snd_var)) (Snd.rd snd_int)) (Snd.rd snd_int)))) (Snd.rd snd_int)))) (Snd.rd snd_int)))))) sndS_next)
      (sndS_seq (sndS_if (snd_test (snd_op opE_gt (snd_opO opE_ix (Snd.rd snd_int)) (Snd.rd snd_int))) (sndS_seq (sndS_asg (by decide) (snd_op opE_mod (snd_cb1 unE_int (Snd.rd (snd_opO opE_ix (Snd.rd snd_int)))) (Snd.rd snd_var)))
      (sndS_seq (sndS_setL snd_int (snd_op opE_div (snd_opO opE_ix (Snd.rd snd_int)) (Snd.rd snd_var)))
      (sndS_ret snd_var))) sndS_next)
      (sndS_seq (sndS_asg (by decide) (snd_cb1 unE_int (Snd.rd (snd_opO opE_ix (Snd.rd snd_int)))))
      (sndS_seq (sndS_setL snd_int (snd_op opE_mod (snd_cb1 unE_int (Snd.rd (snd_op opE_add (snd_op opE_add (snd_op opE_add (snd_op opE_pow snd_var (Snd.rd snd_int)) (Snd.rd (snd_op opE_mul snd_var (Snd.rd snd_int)))) (Snd.rd (snd_op opE_mul (snd_opO opE_ix (Snd.rd snd_int)) (Snd.rd snd_int)))) (Snd.rd snd_int)))) (Snd.rd snd_int)))
      (sndS_ret (snd_op opE_mod (snd_cb1 unE_int (Snd.rd (snd_op opE_add (snd_op opE_div (snd_opO opE_ix (Snd.rd snd_int)) (Snd.rd snd_int)) (Snd.rd (snd_op opE_mul (snd_op opE_mod (snd_cb1 unE_int (Snd.rd (snd_opO opE_ix (Snd.rd snd_int)))) (Snd.rd snd_int)) (Snd.rd snd_int)))))) (Snd.rd snd_var))))))))
    (pss_cons (ps_asg (pe_op op_addU (pe_ix ix_seq (pv 0) pe_int (fun _ _ => rfl)) pe_int) (pg_sub (pv 0) pe_int set_list))
      (pss_cons (ps_if (PW.pt (pw_and (pt_cmpR (op_eqD hr.u64) (pe_ix ix_seq (pv 0) pe_int (fun _ _ => rfl)) pe_int (nomark _)) (pw_and1 (pt_cmpR op_lt (pe_ix ix_seq (pv 0) pe_int (fun _ _ => rfl)) (pe_callB cr_lenU rfl T.n_len (by decide +kernel) (pa_cons (pe_ix ix_seq (pv 0) pe_int (fun _ _ => rfl)) pa_nil)) (nomark _))))) (pss_cons (ps_set (i := 2) sc__law_draw.nd rfl (Or.inl rfl) (pe_callTy call_int1 rfl T.n_int (by decide +kernel) (pa_cons (pe_ix ix_seq (pe_ix ix_seq (pv 0) pe_int (fun _ _ => rfl)) (pe_ix ix_seq (pv 0) pe_int (fun _ _ => rfl)) (fun _ _ => rfl)) pa_nil)))
      (pss_cons (ps_asg (pe_op op_addU (pe_ix ix_seq (pv 0) pe_int (fun _ _ => rfl)) pe_int) (pg_sub (pv 0) pe_int set_list))
      (pss_one (ps_if (pt_cmpR op_ge (pv 2) (pe_op op_pow pe_int pe_int) (nomark _)) (pss_one (ps_asg (pv 2) (pg_sub (pv 0) pe_int set_list))) (pss_one (ps_asg (pe_op op_mod (pe_callTy call_int1 rfl T.n_int (by decide +kernel) (pa_cons (pe_op op_addU (pe_op op_addU (pe_op op_mulU (pe_ix ix_seq (pv 0) pe_int (fun _ _ => rfl)) pe_int) (pe_op op_mulU (pe_op op_mod (pe_callTy call_int1 rfl T.n_int (by decide +kernel) (pa_cons (pv 2) pa_nil)) pe_int) pe_int)) pe_int) pa_nil)) pe_int) (pg_sub (pv 0) pe_int set_list))))))) pss_nil)
      (pss_cons (ps_if (pt_cmpR op_gt (pe_ix ix_seq (pv 0) pe_int (fun _ _ => rfl)) pe_int (nomark _)) (pss_cons (ps_set (i := 3) sc__law_draw.nd rfl (Or.inl rfl) (pe_op op_mod (pe_callTy call_int1 rfl T.n_int (by decide +kernel) (pa_cons (pe_ix ix_seq (pv 0) pe_int (fun _ _ => rfl)) pa_nil)) (pv 1)))
      (pss_cons (ps_asg (pe_op op_fdivW (pe_ix ix_seq (pv 0) pe_int (fun _ _ => rfl)) (pv 1)) (pg_sub (pv 0) pe_int set_list))
      (pss_one (ps_ret (pv 3))))) pss_nil)
      (pss_cons (ps_set (i := 4) sc__law_draw.nd rfl (Or.inl rfl) (pe_callTy call_int1 rfl T.n_int (by decide +kernel) (pa_cons (pe_ix ix_seq (pv 0) pe_int (fun _ _ => rfl)) pa_nil)))
      (pss_cons (ps_asg (pe_op op_mod (pe_callTy call_int1 rfl T.n_int (by decide +kernel) (pa_cons (pe_op op_addU (pe_op op_addU (pe_op op_addU (pe_op op_pow (pv 4) pe_int) (pe_op op_mulU (pv 4) pe_int)) (pe_op op_mulU (pe_ix ix_seq (pv 0) pe_int (fun _ _ => rfl)) pe_int)) pe_int) pa_nil)) pe_int) (pg_sub (pv 0) pe_int set_list))
      (pss_one (ps_ret (pe_op op_mod (pe_callTy call_int1 rfl T.n_int (by decide +kernel) (pa_cons (pe_op op_addU (pe_op op_fdivW (pe_ix ix_seq (pv 0) pe_int (fun _ _ => rfl)) pe_int) (pe_op op_mulU (pe_op op_mod (pe_callTy call_int1 rfl T.n_int (by decide +kernel) (pa_cons (pe_ix ix_seq (pv 0) pe_int (fun _ _ => rfl)) pa_nil)) pe_int) pe_int)) pa_nil)) (pv 1)))))))))
abbrev s__law_of : Stmt := top 44
theorem sc__law_of : FnScope ["bag", "things"] ["bag", "things"] (defScope s__law_of) := ⟨rfl, rfl, rfl, by decide +kernel, rfl, by decide +kernel, by decide +kernel⟩
theorem k__law_of (T : Tx K mg ca) (F : Has K mg "_law_of" "_law_of" s__law_of ["bag", "things"] []) (h__law_draw : Cal P w K mg base 1 "_law_draw" [] (spI ⟨K, ca⟩ 2 d__law_draw)) : Cal P w K mg base 2 "_law_of" [] (spI ⟨K, ca⟩ 2 d__law_of) := by
  refine cal_fnI (ca := ca) (k := 1) (n := 2) rfl rfl rfl F sc__law_of (by decide) (body := b__law_of) fun f cdv A outer s H E hr => ?_
  exact ex_mk (sndS_ret (snd_op opE_ix snd_var (Snd.rd (snd_callI0 (fun _ _ _ _ h => fnI_len h) (snd_cons (snd_cb1 unE_len (Snd.rd snd_var)) snd_nil)))))
    (pss_one (ps_ret (pe_ix ix_seq (pv 1) (pe_cal h__law_draw (hr.mono (by decide)) (pa_cons (pv 0) (pa_cons (pe_callB cr_lenU rfl T.n_len (by decide +kernel) (pa_cons (pv 1) pa_nil)) pa_nil))) (fun _ _ => rfl))))
abbrev s__law_mixed : Stmt := top 45
theorem sc__law_mixed : FnScope ["bag", "things", "rest", "found", "lap"] ["bag", "things"] (defScope s__law_mixed) := ⟨rfl, rfl, rfl, by decide +kernel, rfl, by decide +kernel, by decide +kernel⟩
theorem k__law_mixed (T : Tx K mg ca) (F : Has K mg "_law_mixed" "_law_mixed" s__law_mixed ["bag", "things"] []) (h__law_draw : Cal P w K mg base 1 "_law_draw" [] (spI ⟨K, ca⟩ 2 d__law_draw)) : Cal P w K mg base 2 "_law_mixed" [] (spI ⟨K, ca⟩ 2 d__law_mixed) := by
  refine cal_fnI (ca := ca) (k := 1) (n := 5) rfl rfl rfl F sc__law_mixed (by decide) (body := b__law_mixed) fun f cdv A outer s H E hr => ?_
  exact ex_mk (sndS_seq (sndS_par (b1 := true) (b2 := true) (by decide) (by decide) (snd_cb1F unF_list (Snd.rd snd_var)) snd_lnew)
      (sndS_seq (sndS_for (snd_rng1 (Snd.rd (snd_cb1 unE_len snd_own))) (tg_name (i := 4)) (by decide) (by decide) (sndS_drop (snd_app (snd_popAt (snd_callI0 (fun _ _ _ _ h => fnI_len h) (snd_cons (snd_cb1 unE_len snd_own) snd_nil))))))
      (sndS_frz (by decide) (sndS_ret snd_var))))
    (pss_cons (ps_par rfl sc__law_mixed.nd rfl rfl (by decide) rfl rfl (pa_cons (pe_callTy call_list_of rfl T.n_list (by decide +kernel) (pa_cons (pv 1) pa_nil)) (pa_cons (pe_lst pa_nil) pa_nil)) rfl)
      (pss_cons (ps_for PassesOwn.never rfl (pi_range1 rfl T.n_range (pa_cons (pe_callB cr_lenU rfl T.n_len (by decide +kernel) (pa_cons (pv 2) pa_nil)) pa_nil)) (pg_name (i := 4) sc__law_mixed.nd rfl (Or.inl rfl)) (pss_one (ps_expr (pe_bm PySem.F.plainAttrs_list PySem.F.slot_list_append PySem.F.type_list_append mt_append (pv 3) (pa_cons (pe_bm PySem.F.plainAttrs_list PySem.F.slot_list_pop PySem.F.type_list_pop mt_popAt (pv 2) (pa_cons (pe_cal h__law_draw (hr.mono (by decide)) (pa_cons (pv 0) (pa_cons (pe_callB cr_lenU rfl T.n_len (by decide +kernel) (pa_cons (pv 2) pa_nil)) pa_nil))) pa_nil)) pa_nil)))))
      (pss_one (ps_ret (pv 3)))))
abbrev s__law_closed : Stmt := top 46
theorem sc__law_closed : FnScope [] [] (defScope s__law_closed) := ⟨rfl, rfl, rfl, by decide +kernel, rfl, by decide +kernel, by decide +kernel⟩
theorem k__law_closed (T : Tx K mg ca) (F : Has K mg "_law_closed" "_law_closed" s__law_closed [] [])  : Cal P w K mg base 1 "_law_closed" [] (spP ⟨K, ca⟩ 0 d__law_closed) := by
  refine cal_fnP (ca := ca) (k := 0) (n := 0) rfl rfl rfl F sc__law_closed (by decide) (body := b__law_closed) fun f cdv A outer s H E hr => ?_
  exact ex_mk (sndS_ret (Snd.frz (snd_split snd_str snd_str)))
    (pss_one (ps_ret (pe_split pe_str pe_str)))
abbrev s__law_fresh : Stmt := top 47
theorem sc__law_fresh : FnScope ["bag", "count", "near", "found", "firsts", "k", "tail", "j", "label", "n", "x"] ["bag", "count", "near"] (defScope s__law_fresh) := ⟨rfl, rfl, rfl, by decide +kernel, rfl, by decide +kernel, by decide +kernel⟩
theorem k__law_fresh (T : Tx K mg ca) (F : Has K mg "_law_fresh" "_law_fresh" s__law_fresh ["bag", "count", "near"] []) (h__law_of : Cal P w K mg base 2 "_law_of" [] (spI ⟨K, ca⟩ 2 d__law_of)) (h__law_draw : Cal P w K mg base 1 "_law_draw" [] (spI ⟨K, ca⟩ 2 d__law_draw)) (h__law_closed : Cal P w K mg base 1 "_law_closed" [] (spP ⟨K, ca⟩ 0 d__law_closed)) : Cal P w K mg base 3 "_law_fresh" [] (spI ⟨K, ca⟩ 3 d__law_fresh) := by
  refine cal_fnI (ca := ca) (k := 2) (n := 11) rfl rfl rfl F sc__law_fresh (by decide) (body := b__law_fresh) fun f cdv A outer s H E hr => ?_
  exact ex_mk (sndS_seq (sndS_parT (b1 := true) (b2 := false) (by decide) (by decide) snd_lnew snd_str)
      (sndS_seq (sndS_for (snd_rng1 (Snd.rd snd_var)) (tg_name (i := 5)) (by decide) (by decide) (sndS_seq (sndS_asg (by decide) (snd_join snd_str (Snd.frr (snd_comp (snd_rng1 (Snd.rd (snd_callI0 (fun _ _ _ _ h => fnI_len h) (snd_cons (Snd.frz (snd_lst (snd_cons snd_int (snd_cons snd_int (snd_cons snd_int (snd_cons snd_int (snd_cons snd_int (snd_cons snd_int (snd_cons snd_int (snd_cons snd_int snd_nil)))))))))) snd_nil)))) (tg_name (i := 7)) (by decide) snd_yes (snd_callI0 (fun _ _ _ _ h => fnI_len h) (snd_cons (snd_op opE_add snd_var (Snd.rd snd_str)) snd_nil))))))
      (sndS_seq (sndS_asg (by decide) (snd_op opE_add (snd_callI0 (fun _ _ _ _ h => fnI_len h) (snd_cons snd_var snd_nil)) (Snd.rd snd_var)))
      (sndS_seq (sndS_if (snd_and (snd_tru snd_own) (snd_test (snd_op opE_eq (snd_callI0 (fun _ _ _ _ h => fnI_len h) (snd_cons snd_int snd_nil)) (Snd.rd snd_int)))) (sndS_asg (by decide) (snd_op opE_add (snd_slE slE_U (snd_op opE_add (snd_opO opE_ix (Snd.rd (snd_un unE_neg (Snd.rd snd_int)))) (Snd.rd snd_str)) snd_oNone (snd_oSome snd_int)) (Snd.rd (snd_callI0 (fun _ _ _ _ h => fnI_len h) (snd_cons snd_str snd_nil))))) sndS_next)
      (sndS_seq (sndS_if (snd_and (snd_tru (Snd.rd snd_var)) (snd_test (snd_op opE_eq (snd_callI0 (fun _ _ _ _ h => fnI_len h) (snd_cons snd_int snd_nil)) (Snd.rd snd_int)))) (sndS_asg (by decide) (snd_callI0 (fun _ _ _ _ h => fnI_len h) (snd_cons snd_var snd_nil))) sndS_next)
      (sndS_seq (sndS_asg (by decide) (snd_if (snd_test (snd_op opE_in snd_var (Snd.rd (snd_call0 (fun _ _ h => fnP_len h) snd_nil)))) (snd_op opE_add snd_var (Snd.rd snd_str)) snd_var))
      (sndS_drop (snd_app (snd_op opE_ix (Snd.frz (snd_comp (snd_iSeq (snd_op opE_add (Snd.frz (snd_lst (snd_cons snd_var snd_nil))) (Snd.frr (snd_comp (snd_rng2 snd_int (Snd.rd snd_int)) (tg_name (i := 9)) (by decide) snd_yes (snd_op opE_add (snd_slE slE_U snd_var snd_oNone (snd_oSome snd_int)) (Snd.rd (snd_cb1 unE_str (Snd.rd snd_var)))))))) (tg_name (i := 10)) (by decide) (snd_test (snd_op opE_notIn snd_var snd_own)) snd_var)) (Snd.rd snd_int))))))))))
      (sndS_frz (by decide) (sndS_ret snd_var))))
    (pss_cons (ps_asg (pe_tup (pa_cons (pe_lst pa_nil) (pa_cons pe_str pa_nil))) (pg_tup rfl (pgs_cons (pg_name (i := 3) sc__law_fresh.nd rfl (Or.inr rfl)) (pgs_cons (pg_name (i := 4) sc__law_fresh.nd rfl (Or.inr rfl)) pgs_nil))))
      (pss_cons (ps_for PassesOwn.never rfl (pi_range1 rfl T.n_range (pa_cons (pv 1) pa_nil)) (pg_name (i := 5) sc__law_fresh.nd rfl (Or.inl rfl)) (pss_cons (ps_set (i := 6) sc__law_fresh.nd rfl (Or.inl rfl) (pe_join pe_str (pe_lc (own := [("j", 7)]) rfl sc__law_fresh.nd (pi_range1 rfl T.n_range (pa_cons (pe_cal h__law_of (hr.mono (by decide)) (pa_cons (pv 0) (pa_cons (pe_lst (pa_cons pe_int (pa_cons pe_int (pa_cons pe_int (pa_cons pe_int (pa_cons pe_int (pa_cons pe_int (pa_cons pe_int (pa_cons pe_int pa_nil))))))))) pa_nil))) pa_nil)) (blkOk_by (own := [("j", 7)]) (N := ["bag", "count", "near", "found", "firsts", "k", "tail", "j", "label", "n", "x"]) (sc := defScope s__law_fresh) (by decide +kernel)) (fun _ _ _ _ _ => (pg_name (i := 7) sc__law_fresh.nd rfl (Or.inl rfl))) (fun _ _ _ _ _ => pts_nil) (fun _ _ _ _ _ => (pe_cal h__law_of (hr.mono (by decide)) (pa_cons (pv 0) (pa_cons (pe_op op_addU (pv 4) pe_str) pa_nil)))))))
      (pss_cons (ps_set (i := 8) sc__law_fresh.nd rfl (Or.inr rfl) (pe_op op_addU (pe_cal h__law_of (hr.mono (by decide)) (pa_cons (pv 0) (pa_cons (pv 4) pa_nil))) (pv 6)))
      (pss_cons (ps_if (PW.pt (pw_and (pt_truth (pv 3) (by intro _; rfl)) (pw_and1 (pt_cmpR (op_eqD hr.u64) (pe_cal h__law_draw (hr.mono (by decide)) (pa_cons (pv 0) (pa_cons pe_int pa_nil))) pe_int (nomark _))))) (pss_one (ps_set (i := 8) sc__law_fresh.nd rfl (Or.inr rfl) (pe_op op_addU (pe_slice sl_U (pe_op op_addU (pe_ix ix_seq (pv 3) (pe_un un_neg pe_int) (fun _ _ => rfl)) pe_str) po_none (po_some pe_int)) (pe_cal h__law_of (hr.mono (by decide)) (pa_cons (pv 0) (pa_cons pe_str pa_nil)))))) pss_nil)
      (pss_cons (ps_if (PW.pt (pw_and (pt_truth (pv 2) (by intro _; rfl)) (pw_and1 (pt_cmpR (op_eqD hr.u64) (pe_cal h__law_draw (hr.mono (by decide)) (pa_cons (pv 0) (pa_cons pe_int pa_nil))) pe_int (nomark _))))) (pss_one (ps_set (i := 8) sc__law_fresh.nd rfl (Or.inr rfl) (pe_cal h__law_of (hr.mono (by decide)) (pa_cons (pv 0) (pa_cons (pv 2) pa_nil))))) pss_nil)
      (pss_cons (ps_set (i := 8) sc__law_fresh.nd rfl (Or.inr rfl) (pe_ifExp (pt_cmpR (op_inU hr.u65) (pv 8) (pe_cal0 h__law_closed (hr.mono (by decide))) (by rfl)) (pe_op op_addU (pv 8) pe_str) (pv 8)))
      (pss_one (ps_expr (pe_bm PySem.F.plainAttrs_list PySem.F.slot_list_append PySem.F.type_list_append mt_append (pv 3) (pa_cons (pe_ix ix_seq (pe_lc (own := [("x", 10)]) rfl sc__law_fresh.nd (PI.or (PI.or (pi_list (pe_op op_addU (pe_lst (pa_cons (pv 8) pa_nil)) (pe_lc (own := [("n", 9)]) rfl sc__law_fresh.nd (pi_range2 rfl T.n_range (pa_cons pe_int (pa_cons pe_int pa_nil))) (blkOk_by (own := [("n", 9)]) (N := ["bag", "count", "near", "found", "firsts", "k", "tail", "j", "label", "n", "x"]) (sc := defScope s__law_fresh) (by decide +kernel)) (fun _ _ _ _ _ => (pg_name (i := 9) sc__law_fresh.nd rfl (Or.inl rfl))) (fun _ _ _ _ _ => pts_nil) (fun _ _ _ _ _ => (pe_op op_addU (pe_slice sl_U (pv 8) po_none (po_some pe_int)) (pe_callTy call_str_int rfl T.n_str (by decide +kernel) (pa_cons (pv 9) pa_nil))))))) (pi_tup (pe_op op_addU (pe_lst (pa_cons (pv 8) pa_nil)) (pe_lc (own := [("n", 9)]) rfl sc__law_fresh.nd (pi_range2 rfl T.n_range (pa_cons pe_int (pa_cons pe_int pa_nil))) (blkOk_by (own := [("n", 9)]) (N := ["bag", "count", "near", "found", "firsts", "k", "tail", "j", "label", "n", "x"]) (sc := defScope s__law_fresh) (by decide +kernel)) (fun _ _ _ _ _ => (pg_name (i := 9) sc__law_fresh.nd rfl (Or.inl rfl))) (fun _ _ _ _ _ => pts_nil) (fun _ _ _ _ _ => (pe_op op_addU (pe_slice sl_U (pv 8) po_none (po_some pe_int)) (pe_callTy call_str_int rfl T.n_str (by decide +kernel) (pa_cons (pv 9) pa_nil)))))))) (pi_str (pe_op op_addU (pe_lst (pa_cons (pv 8) pa_nil)) (pe_lc (own := [("n", 9)]) rfl sc__law_fresh.nd (pi_range2 rfl T.n_range (pa_cons pe_int (pa_cons pe_int pa_nil))) (blkOk_by (own := [("n", 9)]) (N := ["bag", "count", "near", "found", "firsts", "k", "tail", "j", "label", "n", "x"]) (sc := defScope s__law_fresh) (by decide +kernel)) (fun _ _ _ _ _ => (pg_name (i := 9) sc__law_fresh.nd rfl (Or.inl rfl))) (fun _ _ _ _ _ => pts_nil) (fun _ _ _ _ _ => (pe_op op_addU (pe_slice sl_U (pv 8) po_none (po_some pe_int)) (pe_callTy call_str_int rfl T.n_str (by decide +kernel) (pa_cons (pv 9) pa_nil)))))))) (blkOk_by (own := [("x", 10)]) (N := ["bag", "count", "near", "found", "firsts", "k", "tail", "j", "label", "n", "x"]) (sc := defScope s__law_fresh) (by decide +kernel)) (fun _ _ _ _ _ => (pg_name (i := 10) sc__law_fresh.nd rfl (Or.inl rfl))) (fun _ _ _ _ _ => (pts_one (pt_cmpR (op_notInU hr.u65) (pv 10) (pv 3) (by rfl)))) (fun _ _ _ _ _ => (pv 10))) pe_int (fun _ _ => rfl)) pa_nil))))))))))
      (pss_one (ps_ret (pv 3)))))
abbrev s__law_tellers : Stmt := top 48
theorem sc__law_tellers : FnScope ["ties", "r", "s", "t"] ["ties", "r"] (defScope s__law_tellers) := ⟨rfl, rfl, rfl, by decide +kernel, rfl, by decide +kernel, by decide +kernel⟩
theorem k__law_tellers (T : Tx K mg ca) (F : Has K mg "_law_tellers" "_law_tellers" s__law_tellers ["ties", "r"] [])  : Cal P w K mg base 1 "_law_tellers" [] (spP ⟨K, ca⟩ 2 d__law_tellers) := by
  refine cal_fnP (ca := ca) (k := 0) (n := 4) rfl rfl rfl F sc__law_tellers (by decide) (body := b__law_tellers) fun f cdv A outer s H E hr => ?_
  exact ex_mk (sndS_ret (Snd.frz (snd_comp (snd_iSeq snd_var) (tg_tup (is := [2, 3])) (by decide) (snd_test (snd_op opE_eq snd_var (Snd.rd snd_var))) snd_var)))
    (pss_one (ps_ret (pe_lc (own := [("s", 2), ("t", 3)]) rfl sc__law_tellers.nd (PI.or (PI.or (pi_list (pv 0)) (pi_tup (pv 0))) (pi_str (pv 0))) (blkOk_by (own := [("s", 2), ("t", 3)]) (N := ["ties", "r", "s", "t"]) (sc := defScope s__law_tellers) (by decide +kernel)) (fun _ _ _ _ _ => (pg_tup rfl (pgs_cons (pg_name (i := 2) sc__law_tellers.nd rfl (Or.inl rfl)) (pgs_cons (pg_name (i := 3) sc__law_tellers.nd rfl (Or.inl rfl)) pgs_nil)))) (fun _ _ _ _ _ => (pts_one (pt_cmpR (op_eqD hr.u64) (pv 3) (pv 1) (nomark _)))) (fun _ _ _ _ _ => (pv 2)))))
abbrev s__law_hearers : Stmt := top 49
theorem sc__law_hearers : FnScope ["ties", "r", "s", "t"] ["ties", "r"] (defScope s__law_hearers) := ⟨rfl, rfl, rfl, by decide +kernel, rfl, by decide +kernel, by decide +kernel⟩
theorem k__law_hearers (T : Tx K mg ca) (F : Has K mg "_law_hearers" "_law_hearers" s__law_hearers ["ties", "r"] [])  : Cal P w K mg base 1 "_law_hearers" [] (spP ⟨K, ca⟩ 2 d__law_hearers) := by
  refine cal_fnP (ca := ca) (k := 0) (n := 4) rfl rfl rfl F sc__law_hearers (by decide) (body := b__law_hearers) fun f cdv A outer s H E hr => ?_
  exact ex_mk (sndS_ret (Snd.frz (snd_cb1F unF_sort (Snd.frr (snd_comp (snd_iSeq snd_var) (tg_tup (is := [2, 3])) (by decide) (snd_test (snd_op opE_eq snd_var (Snd.rd snd_var))) snd_var)))))
    (pss_one (ps_ret (pe_callB (cr_sortedA hr.u60) rfl T.n_sorted (by decide +kernel) (pa_cons (pe_lc (own := [("s", 2), ("t", 3)]) rfl sc__law_hearers.nd (PI.or (PI.or (pi_list (pv 0)) (pi_tup (pv 0))) (pi_str (pv 0))) (blkOk_by (own := [("s", 2), ("t", 3)]) (N := ["ties", "r", "s", "t"]) (sc := defScope s__law_hearers) (by decide +kernel)) (fun _ _ _ _ _ => (pg_tup rfl (pgs_cons (pg_name (i := 2) sc__law_hearers.nd rfl (Or.inl rfl)) (pgs_cons (pg_name (i := 3) sc__law_hearers.nd rfl (Or.inl rfl)) pgs_nil)))) (fun _ _ _ _ _ => (pts_one (pt_cmpR (op_eqD hr.u64) (pv 2) (pv 1) (nomark _)))) (fun _ _ _ _ _ => (pv 3))) pa_nil))))
abbrev s__law_sibs : Stmt := top 50
theorem sc__law_sibs : FnScope ["ties", "a", "b", "s", "t"] ["ties", "a", "b"] (defScope s__law_sibs) := ⟨rfl, rfl, rfl, by decide +kernel, rfl, by decide +kernel, by decide +kernel⟩
theorem k__law_sibs (T : Tx K mg ca) (F : Has K mg "_law_sibs" "_law_sibs" s__law_sibs ["ties", "a", "b"] [])  : Cal P w K mg base 1 "_law_sibs" [] (spP ⟨K, ca⟩ 3 d__law_sibs) := by
  refine cal_fnP (ca := ca) (k := 0) (n := 5) rfl rfl rfl F sc__law_sibs (by decide) (body := b__law_sibs) fun f cdv A outer s H E hr => ?_
  exact ex_mk (sndS_ret (Snd.frz (snd_cb1F unF_sort (Snd.frr (snd_comp (snd_iSeq snd_var) (tg_tup (is := [3, 4])) (by decide) (snd_and (snd_test (snd_op opE_eq snd_var (Snd.rd snd_var))) (snd_test (snd_op opE_in (snd_tup (snd_cons snd_var (snd_cons snd_var snd_nil))) (Snd.rd snd_var)))) snd_var)))))
    (pss_one (ps_ret (pe_callB (cr_sortedA hr.u60) rfl T.n_sorted (by decide +kernel) (pa_cons (pe_lc (own := [("s", 3), ("t", 4)]) rfl sc__law_sibs.nd (PI.or (PI.or (pi_list (pv 0)) (pi_tup (pv 0))) (pi_str (pv 0))) (blkOk_by (own := [("s", 3), ("t", 4)]) (N := ["ties", "a", "b", "s", "t"]) (sc := defScope s__law_sibs) (by decide +kernel)) (fun _ _ _ _ _ => (pg_tup rfl (pgs_cons (pg_name (i := 3) sc__law_sibs.nd rfl (Or.inl rfl)) (pgs_cons (pg_name (i := 4) sc__law_sibs.nd rfl (Or.inl rfl)) pgs_nil)))) (fun _ _ _ _ _ => (pts_one (PW.pt (pw_and (pt_cmpR (op_eqD hr.u64) (pv 4) (pv 1) (nomark _)) (pw_and1 (pt_cmpR (op_inU hr.u65) (pe_tup (pa_cons (pv 3) (pa_cons (pv 2) pa_nil))) (pv 0) (by rfl))))))) (fun _ _ _ _ _ => (pv 3))) pa_nil))))
abbrev s__law_is_bare : Stmt := top 51
theorem sc__law_is_bare : FnScope ["ties", "ring", "k", "j"] ["ties", "ring"] (defScope s__law_is_bare) := ⟨rfl, rfl, rfl, by decide +kernel, rfl, by decide +kernel, by decide +kernel⟩
theorem k__law_is_bare (T : Tx K mg ca) (F : Has K mg "_law_is_bare" "_law_is_bare" s__law_is_bare ["ties", "ring"] []) (h__law_sibs : Cal P w K mg base 1 "_law_sibs" [] (spP ⟨K, ca⟩ 3 d__law_sibs)) : Cal P w K mg base 2 "_law_is_bare" [] (spP ⟨K, ca⟩ 2 d__law_is_bare) := by
  refine cal_fnP (ca := ca) (k := 1) (n := 4) rfl rfl rfl F sc__law_is_bare (by decide) (body := b__law_is_bare) fun f cdv A outer s H E hr => ?_
  exact ex_mk (sndS_seq (sndS_for (snd_rng1 (Snd.rd (snd_cb1 unE_len (Snd.rd snd_var)))) (tg_name (i := 2)) (by decide) (by decide) (sndS_for (snd_rng1 (Snd.rd snd_var)) (tg_name (i := 3)) (by decide) (by decide) (sndS_if (snd_tru (Snd.rd (snd_call0 (fun _ _ h => fnP_len h) (snd_cons snd_var (snd_cons (snd_op opE_ix snd_var (Snd.rd snd_var)) (snd_cons (snd_op opE_ix snd_var (Snd.rd snd_var)) snd_nil)))))) (sndS_ret snd_bl) sndS_next)))
      (sndS_ret snd_bl))
    (pss_cons (ps_for PassesOwn.never rfl (pi_range1 rfl T.n_range (pa_cons (pe_callB cr_lenU rfl T.n_len (by decide +kernel) (pa_cons (pv 1) pa_nil)) pa_nil)) (pg_name (i := 2) sc__law_is_bare.nd rfl (Or.inl rfl)) (pss_one (ps_for PassesOwn.never rfl (pi_range1 rfl T.n_range (pa_cons (pv 2) pa_nil)) (pg_name (i := 3) sc__law_is_bare.nd rfl (Or.inl rfl)) (pss_one (ps_if (pt_truth (pe_cal h__law_sibs (hr.mono (by decide)) (pa_cons (pv 0) (pa_cons (pe_ix ix_seq (pv 1) (pv 3) (fun _ _ => rfl)) (pa_cons (pe_ix ix_seq (pv 1) (pv 2) (fun _ _ => rfl)) pa_nil)))) (by intro _; rfl)) (pss_one (ps_ret pe_bl)) pss_nil)))))
      (pss_one (ps_ret pe_bl)))
abbrev s__law_rings : Stmt := top 52
theorem sc__law_rings : FnScope ["size", "ties", "to", "s", "found", "r", "ways", "way", "t"] ["size", "ties"] (defScope s__law_rings) := ⟨rfl, rfl, rfl, by decide +kernel, rfl, by decide +kernel, by decide +kernel⟩
theorem k__law_rings (T : Tx K mg ca) (F : Has K mg "_law_rings" "_law_rings" s__law_rings ["size", "ties"] []) (h__law_hearers : Cal P w K mg base 1 "_law_hearers" [] (spP ⟨K, ca⟩ 2 d__law_hearers)) : Cal P w K mg base 2 "_law_rings" [] (spP ⟨K, ca⟩ 2 d__law_rings) := by
  refine cal_fnP (ca := ca) (k := 1) (n := 9) rfl rfl rfl F sc__law_rings (by decide) (body := b__law_rings) fun f cdv A outer s H E hr => ?_
  exact ex_mk (sndS_seq (sndS_asg (by decide) (Snd.frz (snd_comp (snd_rng1 (Snd.rd snd_var)) (tg_name (i := 3)) (by decide) snd_yes (snd_call0 (fun _ _ h => fnP_len h) (snd_cons snd_var (snd_cons snd_var snd_nil))))))
      (sndS_seq (sndS_asgO (by decide) snd_lnew)
      (sndS_seq (sndS_for (snd_rng1 (Snd.rd snd_var)) (tg_name (i := 5)) (by decide) (by decide) (sndS_seq (sndS_asgO (by decide) (snd_lst (snd_cons (snd_tup (snd_cons snd_var snd_nil)) snd_nil)))
      (sndS_while fuel (snd_tru snd_own) (by decide) (sndS_seq (sndS_asg (by decide) snd_pop)
      (sndS_seq (sndS_if (snd_test (snd_op opE_in snd_var (Snd.rd (snd_op opE_ix snd_var (Snd.rd (snd_op opE_ix snd_var (Snd.rd (snd_un unE_neg (Snd.rd snd_int))))))))) (sndS_drop (snd_app snd_var)) sndS_next)
      (sndS_asgO (by decide) (snd_opOF opF_cat (Snd.frr (snd_comp (snd_iSeq (snd_op opE_ix snd_var (Snd.rd (snd_op opE_ix snd_var (Snd.rd (snd_un unE_neg (Snd.rd snd_int))))))) (tg_name (i := 8)) (by decide) (snd_and (snd_test (snd_op opE_gt snd_var (Snd.rd snd_var))) (snd_test (snd_op opE_notIn snd_var (Snd.rd snd_var)))) (snd_op opE_add snd_var (Snd.rd (snd_tup (snd_cons snd_var snd_nil)))))))))))))
      (sndS_ret (Snd.frz (snd_cb1F unF_sort snd_own))))))
    (pss_cons (ps_setLc (i := 2) (own := [("s", 3)]) rfl sc__law_rings.nd rfl rfl (sw_true rfl rfl rfl (by decide +kernel)) (pi_range1 rfl T.n_range (pa_cons (pv 0) pa_nil)) (blkOk_by (own := [("s", 3)]) (N := ["size", "ties", "to", "s", "found", "r", "ways", "way", "t"]) (sc := defScope s__law_rings) (by decide +kernel)) (fun _ _ _ _ _ => (pg_name (i := 3) sc__law_rings.nd rfl (Or.inl rfl))) (fun _ _ _ _ _ => pts_nil) (fun _ _ _ _ _ => (pe_cal h__law_hearers (hr.mono (by decide)) (pa_cons (pv 1) (pa_cons (pv 3) pa_nil)))))
      (pss_cons (ps_set (i := 4) sc__law_rings.nd rfl (Or.inl rfl) (pe_lst pa_nil))
      (pss_cons (ps_for PassesOwn.never rfl (pi_range1 rfl T.n_range (pa_cons (pv 0) pa_nil)) (pg_name (i := 5) sc__law_rings.nd rfl (Or.inr rfl)) (pss_cons (ps_set (i := 6) sc__law_rings.nd rfl (Or.inl rfl) (pe_lst (pa_cons (pe_tup (pa_cons (pv 5) pa_nil)) pa_nil)))
      (pss_one (ps_while PassesOwn.never (pt_truth (pv 6) (by intro _; rfl)) (pss_cons (ps_set (i := 7) sc__law_rings.nd rfl (Or.inr rfl) (pe_bm0 PySem.F.plainAttrs_list PySem.F.slot_list_pop PySem.F.type_list_pop mt_pop (pv 6)))
      (pss_cons (ps_if (pt_cmpR (op_inU hr.u65) (pv 5) (pe_ix ix_seq (pv 2) (pe_ix ix_seq (pv 7) (pe_un un_neg pe_int) (fun _ _ => rfl)) (fun _ _ => rfl)) (by rfl)) (pss_one (ps_expr (pe_bm PySem.F.plainAttrs_list PySem.F.slot_list_append PySem.F.type_list_append mt_append (pv 4) (pa_cons (pv 7) pa_nil)))) pss_nil)
      (pss_one (ps_set (i := 6) sc__law_rings.nd rfl (Or.inl rfl) (pe_op op_addU (pv 6) (pe_lc (own := [("t", 8)]) rfl sc__law_rings.nd (PI.or (PI.or (pi_list (pe_ix ix_seq (pv 2) (pe_ix ix_seq (pv 7) (pe_un un_neg pe_int) (fun _ _ => rfl)) (fun _ _ => rfl))) (pi_tup (pe_ix ix_seq (pv 2) (pe_ix ix_seq (pv 7) (pe_un un_neg pe_int) (fun _ _ => rfl)) (fun _ _ => rfl)))) (pi_str (pe_ix ix_seq (pv 2) (pe_ix ix_seq (pv 7) (pe_un un_neg pe_int) (fun _ _ => rfl)) (fun _ _ => rfl)))) (blkOk_by (own := [("t", 8)]) (N := ["size", "ties", "to", "s", "found", "r", "ways", "way", "t"]) (sc := defScope s__law_rings) (by decide +kernel)) (fun _ _ _ _ _ => (pg_name (i := 8) sc__law_rings.nd rfl (Or.inl rfl))) (fun _ _ _ _ _ => (pts_one (PW.pt (pw_and (pt_cmpR op_gt (pv 8) (pv 5) (nomark _)) (pw_and1 (pt_cmpR (op_notInU hr.u65) (pv 8) (pv 7) (by rfl))))))) (fun _ _ _ _ _ => (pe_op op_addU (pv 7) (pe_tup (pa_cons (pv 8) pa_nil))))))))))))))
      (pss_one (ps_ret (pe_callB (cr_sortedA hr.u60) rfl T.n_sorted (by decide +kernel) (pa_cons (pv 4) pa_nil)))))))
abbrev s__law_bares : Stmt := top 53
theorem sc__law_bares : FnScope ["size", "ties", "x"] ["size", "ties"] (defScope s__law_bares) := ⟨rfl, rfl, rfl, by decide +kernel, rfl, by decide +kernel, by decide +kernel⟩
theorem k__law_bares (T : Tx K mg ca) (F : Has K mg "_law_bares" "_law_bares" s__law_bares ["size", "ties"] []) (h__law_rings : Cal P w K mg base 2 "_law_rings" [] (spP ⟨K, ca⟩ 2 d__law_rings)) (h__law_is_bare : Cal P w K mg base 2 "_law_is_bare" [] (spP ⟨K, ca⟩ 2 d__law_is_bare)) : Cal P w K mg base 3 "_law_bares" [] (spP ⟨K, ca⟩ 2 d__law_bares) := by
  refine cal_fnP (ca := ca) (k := 2) (n := 3) rfl rfl rfl F sc__law_bares (by decide) (body := b__law_bares) fun f cdv A outer s H E hr => ?_
  exact ex_mk (sndS_ret (Snd.frz (snd_comp (snd_iSeq (snd_call0 (fun _ _ h => fnP_len h) (snd_cons snd_var (snd_cons snd_var snd_nil)))) (tg_name (i := 2)) (by decide) (snd_tru (Snd.rd (snd_call0 (fun _ _ h => fnP_len h) (snd_cons snd_var (snd_cons snd_var snd_nil))))) snd_var)))
    (pss_one (ps_ret (pe_lc (own := [("x", 2)]) rfl sc__law_bares.nd (PI.or (PI.or (pi_list (pe_cal h__law_rings (hr.mono (by decide)) (pa_cons (pv 0) (pa_cons (pv 1) pa_nil)))) (pi_tup (pe_cal h__law_rings (hr.mono (by decide)) (pa_cons (pv 0) (pa_cons (pv 1) pa_nil))))) (pi_str (pe_cal h__law_rings (hr.mono (by decide)) (pa_cons (pv 0) (pa_cons (pv 1) pa_nil))))) (blkOk_by (own := [("x", 2)]) (N := ["size", "ties", "x"]) (sc := defScope s__law_bares) (by decide +kernel)) (fun _ _ _ _ _ => (pg_name (i := 2) sc__law_bares.nd rfl (Or.inl rfl))) (fun _ _ _ _ _ => (pts_one (pt_truth (pe_cal h__law_is_bare (hr.mono (by decide)) (pa_cons (pv 1) (pa_cons (pv 2) pa_nil))) (by intro _; rfl)))) (fun _ _ _ _ _ => (pv 2)))))
abbrev s__law_named : Stmt := top 54
theorem sc__law_named : FnScope ["names", "places", "k"] ["names", "places"] (defScope s__law_named) := ⟨rfl, rfl, rfl, by decide +kernel, rfl, by decide +kernel, by decide +kernel⟩
theorem k__law_named (T : Tx K mg ca) (F : Has K mg "_law_named" "_law_named" s__law_named ["names", "places"] [])  : Cal P w K mg base 1 "_law_named" [] (spP ⟨K, ca⟩ 2 d__law_named) := by
  refine cal_fnP (ca := ca) (k := 0) (n := 3) rfl rfl rfl F sc__law_named (by decide) (body := b__law_named) fun f cdv A outer s H E hr => ?_
  exact ex_mk (sndS_ret (snd_cb1 unE_tuple (Snd.frr (snd_comp (snd_iSeq snd_var) (tg_name (i := 2)) (by decide) snd_yes (snd_op opE_ix snd_var (Snd.rd snd_var))))))
    (pss_one (ps_ret (pe_callTy call_tuple_of rfl T.n_tuple (by decide +kernel) (pa_cons (pe_lc (own := [("k", 2)]) rfl sc__law_named.nd (PI.or (PI.or (pi_list (pv 1)) (pi_tup (pv 1))) (pi_str (pv 1))) (blkOk_by (own := [("k", 2)]) (N := ["names", "places", "k"]) (sc := defScope s__law_named) (by decide +kernel)) (fun _ _ _ _ _ => (pg_name (i := 2) sc__law_named.nd rfl (Or.inl rfl))) (fun _ _ _ _ _ => pts_nil) (fun _ _ _ _ _ => (pe_ix ix_seq (pv 0) (pv 2) (fun _ _ => rfl)))) pa_nil))))
abbrev s__law_pairs : Stmt := top 55
theorem sc__law_pairs : FnScope ["names", "ties", "s", "t"] ["names", "ties"] (defScope s__law_pairs) := ⟨rfl, rfl, rfl, by decide +kernel, rfl, by decide +kernel, by decide +kernel⟩
theorem k__law_pairs (T : Tx K mg ca) (F : Has K mg "_law_pairs" "_law_pairs" s__law_pairs ["names", "ties"] [])  : Cal P w K mg base 1 "_law_pairs" [] (spP ⟨K, ca⟩ 2 d__law_pairs) := by
  refine cal_fnP (ca := ca) (k := 0) (n := 4) rfl rfl rfl F sc__law_pairs (by decide) (body := b__law_pairs) fun f cdv A outer s H E hr => ?_
  exact ex_mk (sndS_ret (Snd.frz (snd_comp (snd_iSeq snd_var) (tg_tup (is := [2, 3])) (by decide) snd_yes (snd_tup (snd_cons (snd_op opE_ix snd_var (Snd.rd snd_var)) (snd_cons (snd_op opE_ix snd_var (Snd.rd snd_var)) snd_nil))))))
    (pss_one (ps_ret (pe_lc (own := [("s", 2), ("t", 3)]) rfl sc__law_pairs.nd (PI.or (PI.or (pi_list (pv 1)) (pi_tup (pv 1))) (pi_str (pv 1))) (blkOk_by (own := [("s", 2), ("t", 3)]) (N := ["names", "ties", "s", "t"]) (sc := defScope s__law_pairs) (by decide +kernel)) (fun _ _ _ _ _ => (pg_tup rfl (pgs_cons (pg_name (i := 2) sc__law_pairs.nd rfl (Or.inl rfl)) (pgs_cons (pg_name (i := 3) sc__law_pairs.nd rfl (Or.inl rfl)) pgs_nil)))) (fun _ _ _ _ _ => pts_nil) (fun _ _ _ _ _ => (pe_tup (pa_cons (pe_ix ix_seq (pv 0) (pv 2) (fun _ _ => rfl)) (pa_cons (pe_ix ix_seq (pv 0) (pv 3) (fun _ _ => rfl)) pa_nil)))))))
abbrev s__law_xtext : Stmt := top 56
theorem sc__law_xtext : FnScope ["names", "pairs", "a", "b"] ["names", "pairs"] (defScope s__law_xtext) := ⟨rfl, rfl, rfl, by decide +kernel, rfl, by decide +kernel, by decide +kernel⟩
theorem k__law_xtext (T : Tx K mg ca) (F : Has K mg "_law_xtext" "_law_xtext" s__law_xtext ["names", "pairs"] [])  : Cal P w K mg base 1 "_law_xtext" [] (spP ⟨K, ca⟩ 2 d__law_xtext) := by
  refine cal_fnP (ca := ca) (k := 0) (n := 4) rfl rfl rfl F sc__law_xtext (by decide) (body := b__law_xtext) fun f cdv A outer s H E hr => ?_
  exact ex_mk (sndS_ret (snd_join snd_str (Snd.rd (snd_op opE_add (snd_op opE_add snd_var (Snd.frr (snd_lst (snd_cons snd_str snd_nil)))) (Snd.rd (snd_if (snd_tru (Snd.rd snd_var)) (Snd.frz (snd_lst (snd_cons (snd_join snd_str (Snd.frr (snd_comp (snd_iSeq snd_var) (tg_tup (is := [2, 3])) (by decide) snd_yes (snd_op opE_add (snd_op opE_add snd_var (Snd.rd snd_str)) (Snd.rd snd_var))))) snd_nil))) (Snd.frz snd_lnew)))))))
    (pss_one (ps_ret (pe_join pe_str (pe_op op_addU (pe_op op_addU (pv 0) (pe_lst (pa_cons pe_str pa_nil))) (pe_ifExp (pt_truth (pv 1) (by intro _; rfl)) (pe_lst (pa_cons (pe_join pe_str (pe_lc (own := [("a", 2), ("b", 3)]) rfl sc__law_xtext.nd (PI.or (PI.or (pi_list (pv 1)) (pi_tup (pv 1))) (pi_str (pv 1))) (blkOk_by (own := [("a", 2), ("b", 3)]) (N := ["names", "pairs", "a", "b"]) (sc := defScope s__law_xtext) (by decide +kernel)) (fun _ _ _ _ _ => (pg_tup rfl (pgs_cons (pg_name (i := 2) sc__law_xtext.nd rfl (Or.inl rfl)) (pgs_cons (pg_name (i := 3) sc__law_xtext.nd rfl (Or.inl rfl)) pgs_nil)))) (fun _ _ _ _ _ => pts_nil) (fun _ _ _ _ _ => (pe_op op_addU (pe_op op_addU (pv 2) pe_str) (pv 3))))) pa_nil)) (pe_lst pa_nil))))))
abbrev s__law_ties : Stmt := top 57
theorem sc__law_ties : FnScope ["bag", "size", "kind", "spots", "ring", "planted", "k", "share", "found", "s", "t", "z"] ["bag", "size"] (defScope s__law_ties) := ⟨rfl, rfl, rfl, by decide +kernel, rfl, by decide +kernel, by decide +kernel⟩
theorem k__law_ties (T : Tx K mg ca) (F : Has K mg "_law_ties" "_law_ties" s__law_ties ["bag", "size"] []) (h__law_draw : Cal P w K mg base 1 "_law_draw" [] (spI ⟨K, ca⟩ 2 d__law_draw)) (h__law_mixed : Cal P w K mg base 2 "_law_mixed" [] (spI ⟨K, ca⟩ 2 d__law_mixed)) (h__law_of : Cal P w K mg base 2 "_law_of" [] (spI ⟨K, ca⟩ 2 d__law_of)) : Cal P w K mg base 3 "_law_ties" [] (spI ⟨K, ca⟩ 2 d__law_ties) := by
  refine cal_fnI (ca := ca) (k := 2) (n := 12) rfl rfl rfl F sc__law_ties (by decide) (body := b__law_ties) fun f cdv A outer s H E hr => ?_
  exact ex_mk (sndS_seq (sndS_par (b1 := false) (b2 := false) (by decide) (by decide) (snd_callI0 (fun _ _ _ _ h => fnI_len h) (snd_cons snd_int snd_nil)) (snd_callI0 (fun _ _ _ _ h => fnI_len h) (snd_cons (Snd.frz (snd_lrg1 snd_var)) snd_nil)))
      (sndS_seq (sndS_asg (by decide) (snd_if (snd_test (snd_op opE_lt snd_var (Snd.rd snd_int))) snd_int snd_int))
      (sndS_seq (sndS_if (snd_test (snd_op opE_lt snd_var (Snd.rd snd_int))) (sndS_asg (by decide) (Snd.frz snd_lnew)) (sndS_if (snd_test (snd_op opE_eq snd_var (Snd.rd snd_int))) (sndS_asg (by decide) (Snd.frz (snd_lst (snd_cons (snd_tup (snd_cons snd_int (snd_cons snd_int snd_nil))) (snd_cons (snd_tup (snd_cons snd_int (snd_cons snd_int snd_nil))) (snd_cons (snd_tup (snd_cons snd_int (snd_cons snd_int snd_nil))) (snd_cons (snd_tup (snd_cons snd_int (snd_cons snd_int snd_nil))) (snd_cons (snd_tup (snd_cons snd_int (snd_cons snd_int snd_nil))) (snd_cons (snd_tup (snd_cons snd_int (snd_cons snd_int snd_nil))) snd_nil))))))))) (sndS_if (snd_test (snd_op opE_eq snd_var (Snd.rd snd_int))) (sndS_asg (by decide) (Snd.frz (snd_lst (snd_cons (snd_tup (snd_cons snd_int (snd_cons snd_int snd_nil))) (snd_cons (snd_tup (snd_cons snd_int (snd_cons snd_int snd_nil))) (snd_cons (snd_tup (snd_cons snd_int (snd_cons snd_int snd_nil))) (snd_cons (snd_tup (snd_cons snd_int (snd_cons snd_int snd_nil))) snd_nil))))))) (sndS_if (snd_test (snd_op opE_eq snd_var (Snd.rd snd_int))) (sndS_asg (by decide) (snd_op opE_add (Snd.frz (snd_comp (snd_rng1 (Snd.rd snd_var)) (tg_name (i := 6)) (by decide) snd_yes (snd_tup (snd_cons snd_var (snd_cons (snd_op opE_mod (snd_cb1 unE_int (Snd.rd (snd_op opE_add snd_var (Snd.rd snd_int)))) (Snd.rd snd_var)) snd_nil))))) (Snd.frr (snd_lst (snd_cons (snd_tup (snd_cons snd_var (snd_cons snd_int snd_nil))) (snd_cons (snd_tup (snd_cons snd_var (snd_cons snd_int snd_nil))) snd_nil)))))) (sndS_if (snd_test (snd_op opE_eq snd_var (Snd.rd snd_int))) (sndS_asg (by decide) (Snd.frz (snd_comp (snd_rng1 (Snd.rd snd_var)) (tg_name (i := 6)) (by decide) snd_yes (snd_tup (snd_cons snd_var (snd_cons (snd_op opE_add snd_var (Snd.rd snd_int)) snd_nil)))))) (sndS_asg (by decide) (Snd.frz (snd_comp (snd_rng1 (Snd.rd snd_var)) (tg_name (i := 6)) (by decide) snd_yes (snd_tup (snd_cons snd_var (snd_cons (snd_op opE_mod (snd_cb1 unE_int (Snd.rd (snd_op opE_add snd_var (Snd.rd snd_int)))) (Snd.rd (snd_cb2 opE_max2 snd_int (Snd.rd snd_var)))) snd_nil)))))))))))
      (sndS_seq (sndS_par (b1 := false) (b2 := true) (by decide) (by decide) (snd_if (snd_test (snd_op opE_lt snd_var (Snd.rd snd_int))) snd_int (snd_callI0 (fun _ _ _ _ h => fnI_len h) (snd_cons (Snd.frz (snd_lst (snd_cons snd_int (snd_cons snd_int (snd_cons snd_int (snd_cons snd_int snd_nil)))))) snd_nil))) snd_lnew)
      (sndS_seq (sndS_for (snd_rng1 (Snd.rd snd_var)) (tg_name (i := 9)) (by decide) (by decide) (sndS_for (snd_rng1 (Snd.rd snd_var)) (tg_name (i := 10)) (by decide) (by decide) (sndS_seq (sndS_asg (by decide) (snd_callI0 (fun _ _ _ _ h => fnI_len h) (snd_cons snd_int snd_nil)))
      (sndS_if (snd_or (snd_and (snd_test (snd_op opE_ne snd_var (Snd.rd snd_var))) (snd_test (snd_op opE_in (snd_tup (snd_cons snd_var (snd_cons snd_var snd_nil))) (Snd.rd snd_var)))) (snd_and (snd_test (snd_op opE_lt snd_var (Snd.rd snd_var))) (snd_or (snd_test (snd_op opE_ne snd_var (Snd.rd snd_var))) (snd_test (snd_op opE_in snd_var (Snd.frr (snd_lst (snd_cons snd_int (snd_cons snd_int (snd_cons snd_int snd_nil)))))))))) (sndS_drop (snd_app (snd_tup (snd_cons (snd_op opE_ix snd_var (Snd.rd snd_var)) (snd_cons (snd_op opE_ix snd_var (Snd.rd snd_var)) snd_nil))))) sndS_next))))
      (sndS_ret (Snd.frz (snd_cb1F unF_sort snd_own))))))))
    (pss_cons (ps_par rfl sc__law_ties.nd rfl rfl (by decide) rfl rfl (pa_cons (pe_cal h__law_draw (hr.mono (by decide)) (pa_cons (pv 0) (pa_cons pe_int pa_nil))) (pa_cons (pe_cal h__law_mixed (hr.mono (by decide)) (pa_cons (pv 0) (pa_cons (pe_listRg rfl rfl T.n_list (prg_1 rfl T.n_range (pv 1))) pa_nil))) pa_nil)) rfl)
      (pss_cons (ps_set (i := 4) sc__law_ties.nd rfl (Or.inr rfl) (pe_ifExp (pt_cmpR op_lt (pv 1) pe_int (nomark _)) pe_int pe_int))
      (pss_cons (ps_if (pt_cmpR op_lt (pv 2) pe_int (nomark _)) (pss_one (ps_set (i := 5) sc__law_ties.nd rfl (Or.inl rfl) (pe_lst pa_nil))) (pss_one (ps_if (pt_cmpR (op_eqD hr.u64) (pv 2) pe_int (nomark _)) (pss_one (ps_set (i := 5) sc__law_ties.nd rfl (Or.inl rfl) (pe_lst (pa_cons (pe_tup (pa_cons pe_int (pa_cons pe_int pa_nil))) (pa_cons (pe_tup (pa_cons pe_int (pa_cons pe_int pa_nil))) (pa_cons (pe_tup (pa_cons pe_int (pa_cons pe_int pa_nil))) (pa_cons (pe_tup (pa_cons pe_int (pa_cons pe_int pa_nil))) (pa_cons (pe_tup (pa_cons pe_int (pa_cons pe_int pa_nil))) (pa_cons (pe_tup (pa_cons pe_int (pa_cons pe_int pa_nil))) pa_nil))))))))) (pss_one (ps_if (pt_cmpR (op_eqD hr.u64) (pv 2) pe_int (nomark _)) (pss_one (ps_set (i := 5) sc__law_ties.nd rfl (Or.inl rfl) (pe_lst (pa_cons (pe_tup (pa_cons pe_int (pa_cons pe_int pa_nil))) (pa_cons (pe_tup (pa_cons pe_int (pa_cons pe_int pa_nil))) (pa_cons (pe_tup (pa_cons pe_int (pa_cons pe_int pa_nil))) (pa_cons (pe_tup (pa_cons pe_int (pa_cons pe_int pa_nil))) pa_nil))))))) (pss_one (ps_if (pt_cmpR (op_eqD hr.u64) (pv 2) pe_int (nomark _)) (pss_one (ps_set (i := 5) sc__law_ties.nd rfl (Or.inl rfl) (pe_op op_addU (pe_lc (own := [("k", 6)]) rfl sc__law_ties.nd (pi_range1 rfl T.n_range (pa_cons (pv 4) pa_nil)) (blkOk_by (own := [("k", 6)]) (N := ["bag", "size", "kind", "spots", "ring", "planted", "k", "share", "found", "s", "t", "z"]) (sc := defScope s__law_ties) (by decide +kernel)) (fun _ _ _ _ _ => (pg_name (i := 6) sc__law_ties.nd rfl (Or.inl rfl))) (fun _ _ _ _ _ => pts_nil) (fun _ _ _ _ _ => (pe_tup (pa_cons (pv 6) (pa_cons (pe_op op_mod (pe_callTy call_int1 rfl T.n_int (by decide +kernel) (pa_cons (pe_op op_addU (pv 6) pe_int) pa_nil)) (pv 4)) pa_nil))))) (pe_lst (pa_cons (pe_tup (pa_cons (pv 4) (pa_cons pe_int pa_nil))) (pa_cons (pe_tup (pa_cons (pv 4) (pa_cons pe_int pa_nil))) pa_nil)))))) (pss_one (ps_if (pt_cmpR (op_eqD hr.u64) (pv 2) pe_int (nomark _)) (pss_one (ps_setLc (i := 5) (own := [("k", 6)]) rfl sc__law_ties.nd rfl rfl (sw_true rfl rfl rfl (by decide +kernel)) (pi_range1 rfl T.n_range (pa_cons (pv 1) pa_nil)) (blkOk_by (own := [("k", 6)]) (N := ["bag", "size", "kind", "spots", "ring", "planted", "k", "share", "found", "s", "t", "z"]) (sc := defScope s__law_ties) (by decide +kernel)) (fun _ _ _ _ _ => (pg_name (i := 6) sc__law_ties.nd rfl (Or.inl rfl))) (fun _ _ _ _ _ => pts_nil) (fun _ _ _ _ _ => (pe_tup (pa_cons (pv 6) (pa_cons (pe_op op_addU (pv 6) pe_int) pa_nil)))))) (pss_one (ps_setLc (i := 5) (own := [("k", 6)]) rfl sc__law_ties.nd rfl rfl (sw_true rfl rfl rfl (by decide +kernel)) (pi_range1 rfl T.n_range (pa_cons (pv 1) pa_nil)) (blkOk_by (own := [("k", 6)]) (N := ["bag", "size", "kind", "spots", "ring", "planted", "k", "share", "found", "s", "t", "z"]) (sc := defScope s__law_ties) (by decide +kernel)) (fun _ _ _ _ _ => (pg_name (i := 6) sc__law_ties.nd rfl (Or.inl rfl))) (fun _ _ _ _ _ => pts_nil) (fun _ _ _ _ _ => (pe_tup (pa_cons (pv 6) (pa_cons (pe_op op_mod (pe_callTy call_int1 rfl T.n_int (by decide +kernel) (pa_cons (pe_op op_addU (pv 6) pe_int) pa_nil)) (pe_callB (call_max2 rfl) rfl T.n_max (by decide +kernel) (pa_cons pe_int (pa_cons (pv 1) pa_nil)))) pa_nil)))))))))))))))
      (pss_cons (ps_par rfl sc__law_ties.nd rfl rfl (by decide) rfl rfl (pa_cons (pe_ifExp (pt_cmpR op_lt (pv 2) pe_int (nomark _)) pe_int (pe_cal h__law_of (hr.mono (by decide)) (pa_cons (pv 0) (pa_cons (pe_lst (pa_cons pe_int (pa_cons pe_int (pa_cons pe_int (pa_cons pe_int pa_nil))))) pa_nil)))) (pa_cons (pe_lst pa_nil) pa_nil)) rfl)
      (pss_cons (ps_for PassesOwn.never rfl (pi_range1 rfl T.n_range (pa_cons (pv 1) pa_nil)) (pg_name (i := 9) sc__law_ties.nd rfl (Or.inl rfl)) (pss_one (ps_for PassesOwn.never rfl (pi_range1 rfl T.n_range (pa_cons (pv 1) pa_nil)) (pg_name (i := 10) sc__law_ties.nd rfl (Or.inl rfl)) (pss_cons (ps_set (i := 11) sc__law_ties.nd rfl (Or.inl rfl) (pe_cal h__law_draw (hr.mono (by decide)) (pa_cons (pv 0) (pa_cons pe_int pa_nil))))
      (pss_one (ps_if (PW.pt (pw_or (PW.pt (pw_and (pt_cmpR (op_neD hr.u64) (pv 9) (pv 10) (nomark _)) (pw_and1 (pt_cmpR (op_inU hr.u65) (pe_tup (pa_cons (pv 9) (pa_cons (pv 10) pa_nil))) (pv 5) (by rfl))))) (pw_or1 (PW.pt (pw_and (pt_cmpR op_lt (pv 11) (pv 7) (nomark _)) (pw_and1 (PW.pt (pw_or (pt_cmpR (op_neD hr.u64) (pv 9) (pv 10) (nomark _)) (pw_or1 (pt_cmpR (op_inU hr.u65) (pv 2) (pe_lst (pa_cons pe_int (pa_cons pe_int (pa_cons pe_int pa_nil)))) (by rfl))))))))))) (pss_one (ps_expr (pe_bm PySem.F.plainAttrs_list PySem.F.slot_list_append PySem.F.type_list_append mt_append (pv 8) (pa_cons (pe_tup (pa_cons (pe_ix ix_seq (pv 3) (pv 9) (fun _ _ => rfl)) (pa_cons (pe_ix ix_seq (pv 3) (pv 10) (fun _ _ => rfl)) pa_nil))) pa_nil)))) pss_nil))))))
      (pss_one (ps_ret (pe_callB (cr_sortedA hr.u60) rfl T.n_sorted (by decide +kernel) (pa_cons (pv 8) pa_nil)))))))))
abbrev s__law_size : Stmt := top 58
theorem sc__law_size : FnScope ["bag", "most"] ["bag", "most"] (defScope s__law_size) := ⟨rfl, rfl, rfl, by decide +kernel, rfl, by decide +kernel, by decide +kernel⟩
theorem k__law_size (T : Tx K mg ca) (F : Has K mg "_law_size" "_law_size" s__law_size ["bag", "most"] []) (h__law_of : Cal P w K mg base 2 "_law_of" [] (spI ⟨K, ca⟩ 2 d__law_of)) : Cal P w K mg base 3 "_law_size" [] (spI ⟨K, ca⟩ 2 d__law_size) := by
  refine cal_fnI (ca := ca) (k := 2) (n := 2) rfl rfl rfl F sc__law_size (by decide) (body := b__law_size) fun f cdv A outer s H E hr => ?_
  exact ex_mk (sndS_ret (snd_cb2 opE_min2 snd_var (Snd.rd (snd_callI0 (fun _ _ _ _ h => fnI_len h) (snd_cons (Snd.frz (snd_lst (snd_cons snd_int (snd_cons snd_int (snd_cons snd_int (snd_cons snd_int (snd_cons snd_int (snd_cons snd_int (snd_cons snd_int (snd_cons snd_int (snd_cons snd_int (snd_cons snd_int (snd_cons snd_int (snd_cons snd_int snd_nil)))))))))))))) snd_nil)))))
    (pss_one (ps_ret (pe_callB (call_min2 rfl) rfl T.n_min (by decide +kernel) (pa_cons (pv 1) (pa_cons (pe_cal h__law_of (hr.mono (by decide)) (pa_cons (pv 0) (pa_cons (pe_lst (pa_cons pe_int (pa_cons pe_int (pa_cons pe_int (pa_cons pe_int (pa_cons pe_int (pa_cons pe_int (pa_cons pe_int (pa_cons pe_int (pa_cons pe_int (pa_cons pe_int (pa_cons pe_int (pa_cons pe_int pa_nil))))))))))))) pa_nil))) pa_nil)))))
abbrev s__law_web : Stmt := top 59
theorem sc__law_web : FnScope ["bag", "most", "size"] ["bag", "most"] (defScope s__law_web) := ⟨rfl, rfl, rfl, by decide +kernel, rfl, by decide +kernel, by decide +kernel⟩
theorem k__law_web (T : Tx K mg ca) (F : Has K mg "_law_web" "_law_web" s__law_web ["bag", "most"] []) (h__law_size : Cal P w K mg base 3 "_law_size" [] (spI ⟨K, ca⟩ 2 d__law_size)) (h__law_ties : Cal P w K mg base 3 "_law_ties" [] (spI ⟨K, ca⟩ 2 d__law_ties)) (h__law_fresh : Cal P w K mg base 3 "_law_fresh" [] (spI ⟨K, ca⟩ 3 d__law_fresh)) : Cal P w K mg base 4 "_law_web" [] (spI ⟨K, ca⟩ 2 d__law_web) := by
  refine cal_fnI (ca := ca) (k := 3) (n := 3) rfl rfl rfl F sc__law_web (by decide) (body := b__law_web) fun f cdv A outer s H E hr => ?_
  exact ex_mk (sndS_seq (sndS_asg (by decide) (snd_callI0 (fun _ _ _ _ h => fnI_len h) (snd_cons snd_var snd_nil)))
      (sndS_ret (snd_tup (snd_cons (snd_callI0 (fun _ _ _ _ h => fnI_len h) (snd_cons snd_var (snd_cons (Snd.frz snd_lnew) snd_nil))) (snd_cons (snd_callI0 (fun _ _ _ _ h => fnI_len h) (snd_cons snd_var snd_nil)) snd_nil)))))
    (pss_cons (ps_set (i := 2) sc__law_web.nd rfl (Or.inl rfl) (pe_cal h__law_size (hr.mono (by decide)) (pa_cons (pv 0) (pa_cons (pv 1) pa_nil))))
      (pss_one (ps_ret (pe_tup (pa_cons (pe_cal h__law_fresh (hr.mono (by decide)) (pa_cons (pv 0) (pa_cons (pv 2) (pa_cons (pe_lst pa_nil) pa_nil)))) (pa_cons (pe_cal h__law_ties (hr.mono (by decide)) (pa_cons (pv 0) (pa_cons (pv 2) pa_nil))) pa_nil))))))
abbrev s__law_bare_ties : Stmt := top 61
theorem sc__law_bare_ties : FnScope ["bag", "size", "spots", "ring", "found", "k", "s", "t"] ["bag", "size"] (defScope s__law_bare_ties) := ⟨rfl, rfl, rfl, by decide +kernel, rfl, by decide +kernel, by decide +kernel⟩
theorem k__law_bare_ties (T : Tx K mg ca) (F : Has K mg "_law_bare_ties" "_law_bare_ties" s__law_bare_ties ["bag", "size"] []) (h__law_mixed : Cal P w K mg base 2 "_law_mixed" [] (spI ⟨K, ca⟩ 2 d__law_mixed)) (h__law_draw : Cal P w K mg base 1 "_law_draw" [] (spI ⟨K, ca⟩ 2 d__law_draw)) (h__law_is_bare : Cal P w K mg base 2 "_law_is_bare" [] (spP ⟨K, ca⟩ 2 d__law_is_bare)) : Cal P w K mg base 3 "_law_bare_ties" [] (spI ⟨K, ca⟩ 2 d__law_bare_ties) := by
  refine cal_fnI (ca := ca) (k := 2) (n := 8) rfl rfl rfl F sc__law_bare_ties (by decide) (body := b__law_bare_ties) fun f cdv A outer s H E hr => ?_
  exact ex_mk (sndS_seq (sndS_asg (by decide) (snd_callI0 (fun _ _ _ _ h => fnI_len h) (snd_cons (Snd.frz (snd_lrg1 snd_var)) snd_nil)))
      (sndS_seq (sndS_asg (by decide) (snd_slE slE_U snd_var snd_oNone (snd_oSome (snd_op opE_add snd_int (Snd.rd (snd_callI0 (fun _ _ _ _ h => fnI_len h) (snd_cons snd_var snd_nil)))))))
      (sndS_seq (sndS_asgO (by decide) (snd_cb1F unF_sort (Snd.frr (snd_comp (snd_rng1 (Snd.rd (snd_cb1 unE_len (Snd.rd snd_var)))) (tg_name (i := 5)) (by decide) snd_yes (snd_tup (snd_cons (snd_op opE_ix snd_var (Snd.rd (snd_op opE_sub snd_var (Snd.rd snd_int)))) (snd_cons (snd_op opE_ix snd_var (Snd.rd snd_var)) snd_nil)))))))
      (sndS_seq (sndS_for (snd_rng1 (Snd.rd snd_var)) (tg_name (i := 6)) (by decide) (by decide) (sndS_for (snd_rng1 (Snd.rd snd_var)) (tg_name (i := 7)) (by decide) (by decide) (sndS_if (snd_and (snd_test (snd_op opE_eq (snd_callI0 (fun _ _ _ _ h => fnI_len h) (snd_cons snd_int snd_nil)) (Snd.rd snd_int))) (snd_and (snd_test (snd_op opE_notIn (snd_tup (snd_cons snd_var (snd_cons snd_var snd_nil))) snd_own)) (snd_tru (Snd.rd (snd_call0 (fun _ _ h => fnP_len h) (snd_cons (snd_opO opE_add (Snd.frr (snd_lst (snd_cons (snd_tup (snd_cons snd_var (snd_cons snd_var snd_nil))) snd_nil)))) (snd_cons snd_var snd_nil))))))) (sndS_drop (snd_app (snd_tup (snd_cons snd_var (snd_cons snd_var snd_nil))))) sndS_next)))
      (sndS_ret (Snd.frz (snd_cb1F unF_sort snd_own)))))))
    (pss_cons (ps_set (i := 2) sc__law_bare_ties.nd rfl (Or.inl rfl) (pe_cal h__law_mixed (hr.mono (by decide)) (pa_cons (pv 0) (pa_cons (pe_listRg rfl rfl T.n_list (prg_1 rfl T.n_range (pv 1))) pa_nil))))
      (pss_cons (ps_set (i := 3) sc__law_bare_ties.nd rfl (Or.inr rfl) (pe_slice sl_U (pv 2) po_none (po_some (pe_op op_addU pe_int (pe_cal h__law_draw (hr.mono (by decide)) (pa_cons (pv 0) (pa_cons (pv 1) pa_nil)))))))
      (pss_cons (ps_set (i := 4) sc__law_bare_ties.nd rfl (Or.inl rfl) (pe_callB (cr_sortedA hr.u60) rfl T.n_sorted (by decide +kernel) (pa_cons (pe_lc (own := [("k", 5)]) rfl sc__law_bare_ties.nd (pi_range1 rfl T.n_range (pa_cons (pe_callB cr_lenU rfl T.n_len (by decide +kernel) (pa_cons (pv 3) pa_nil)) pa_nil)) (blkOk_by (own := [("k", 5)]) (N := ["bag", "size", "spots", "ring", "found", "k", "s", "t"]) (sc := defScope s__law_bare_ties) (by decide +kernel)) (fun _ _ _ _ _ => (pg_name (i := 5) sc__law_bare_ties.nd rfl (Or.inl rfl))) (fun _ _ _ _ _ => pts_nil) (fun _ _ _ _ _ => (pe_tup (pa_cons (pe_ix ix_seq (pv 3) (pe_op op_sub (pv 5) pe_int) (fun _ _ => rfl)) (pa_cons (pe_ix ix_seq (pv 3) (pv 5) (fun _ _ => rfl)) pa_nil))))) pa_nil)))
      (pss_cons (ps_for PassesOwn.never rfl (pi_range1 rfl T.n_range (pa_cons (pv 1) pa_nil)) (pg_name (i := 6) sc__law_bare_ties.nd rfl (Or.inl rfl)) (pss_one (ps_for PassesOwn.never rfl (pi_range1 rfl T.n_range (pa_cons (pv 1) pa_nil)) (pg_name (i := 7) sc__law_bare_ties.nd rfl (Or.inl rfl)) (pss_one (ps_if (PW.pt (pw_and (pt_cmpR (op_eqD hr.u64) (pe_cal h__law_draw (hr.mono (by decide)) (pa_cons (pv 0) (pa_cons pe_int pa_nil))) pe_int (nomark _)) (pw_and (pt_cmpR (op_notInU hr.u65) (pe_tup (pa_cons (pv 6) (pa_cons (pv 7) pa_nil))) (pv 4) (by rfl)) (pw_and1 (pt_truth (pe_cal h__law_is_bare (hr.mono (by decide)) (pa_cons (pe_op op_addU (pv 4) (pe_lst (pa_cons (pe_tup (pa_cons (pv 6) (pa_cons (pv 7) pa_nil))) pa_nil))) (pa_cons (pv 3) pa_nil))) (by intro _; rfl)))))) (pss_one (ps_expr (pe_bm PySem.F.plainAttrs_list PySem.F.slot_list_append PySem.F.type_list_append mt_append (pv 4) (pa_cons (pe_tup (pa_cons (pv 6) (pa_cons (pv 7) pa_nil))) pa_nil)))) pss_nil)))))
      (pss_one (ps_ret (pe_callB (cr_sortedA hr.u60) rfl T.n_sorted (by decide +kernel) (pa_cons (pv 4) pa_nil))))))))
abbrev s__law_joined : Stmt := top 63
theorem sc__law_joined : FnScope ["rows", "found", "row"] ["rows"] (defScope s__law_joined) := ⟨rfl, rfl, rfl, by decide +kernel, rfl, by decide +kernel, by decide +kernel⟩
theorem k__law_joined (T : Tx K mg ca) (F : Has K mg "_law_joined" "_law_joined" s__law_joined ["rows"] [])  : Cal P w K mg base 1 "_law_joined" [] (spP ⟨K, ca⟩ 1 d__law_joined) := by
  refine cal_fnP (ca := ca) (k := 0) (n := 3) rfl rfl rfl F sc__law_joined (by decide) (body := b__law_joined) fun f cdv A outer s H E hr => ?_
  exact ex_mk (sndS_seq (sndS_asg (by decide) (Snd.frz snd_lnew))
      (sndS_seq (sndS_for (snd_iSeq snd_var) (tg_name (i := 2)) (by decide) (by decide) (sndS_asg (by decide) (snd_op opE_add snd_var (Snd.rd snd_var))))
      (sndS_ret snd_var)))
    (pss_cons (ps_set (i := 1) sc__law_joined.nd rfl (Or.inl rfl) (pe_lst pa_nil))
      (pss_cons (ps_for PassesOwn.never rfl (PI.or (PI.or (pi_list (pv 0)) (pi_tup (pv 0))) (pi_str (pv 0))) (pg_name (i := 2) sc__law_joined.nd rfl (Or.inl rfl)) (pss_one (ps_set (i := 1) sc__law_joined.nd rfl (Or.inl rfl) (pe_op op_addU (pv 1) (pv 2)))))
      (pss_one (ps_ret (pv 1)))))
abbrev s__law_lots_told : Stmt := top 64
theorem sc__law_lots_told : FnScope ["told", "due", "found", "lot"] ["told", "due"] (defScope s__law_lots_told) := ⟨rfl, rfl, rfl, by decide +kernel, rfl, by decide +kernel, by decide +kernel⟩
theorem k__law_lots_told (T : Tx K mg ca) (F : Has K mg "_law_lots_told" "_law_lots_told" s__law_lots_told ["told", "due"] []) (h_lots_of : CalY P w K mg base 4 "lots_of" [] 1 (spY ⟨K, ca⟩ 1 d_lots_of)) : CalD P w K mg base 5 "_law_lots_told" (spP ⟨K, ca⟩ 2 d__law_lots_told) := by
  refine calD_fnP (ca := ca) (k := 4) (n := 4) rfl rfl rfl F sc__law_lots_told (by decide) (body := b__law_lots_told) fun f cdv A outer s H E hgd hr => ?_
  exact ex_mk (sndS_seq (sndS_asgO (by decide) snd_lnew)
      (sndS_seq (sndS_forY (dvs := []) (fun _ => rfl) (fun _ _ h => fnY_len h) (snd_cons snd_var snd_nil) (tg_name (i := 3)) (by decide) (by decide) (sndS_seq (sndS_if (snd_test (snd_op opE_ge (snd_cb1 unE_len snd_own) (Snd.rd (snd_cb1 unE_len (Snd.rd snd_var))))) (sndS_ret snd_bl) sndS_next)
      (sndS_drop (snd_app snd_var))))
      (sndS_ret (snd_op opE_eq (snd_cb1 unE_repr snd_own) (Snd.rd (snd_cb1 unE_repr (Snd.rd snd_var)))))))
    (pss_cons (ps_set (i := 2) sc__law_lots_told.nd rfl (Or.inl rfl) (pe_lst pa_nil))
      (pss_cons (ps_forY PassesOwn.never rfl XFree.never hr.depth (pgy_cal h_lots_of (hr.mono (by decide)) (pa_cons (pv 0) pa_nil)) (pg_name (i := 3) sc__law_lots_told.nd rfl (Or.inl rfl)) (pss_cons (ps_if (pt_cmpR op_ge (pe_callB cr_lenU rfl T.n_len (by decide +kernel) (pa_cons (pv 2) pa_nil)) (pe_callB cr_lenU rfl T.n_len (by decide +kernel) (pa_cons (pv 1) pa_nil)) (nomark _)) (pss_one (ps_ret pe_bl)) pss_nil)
      (pss_one (ps_expr (pe_bm PySem.F.plainAttrs_list PySem.F.slot_list_append PySem.F.type_list_append mt_append (pv 2) (pa_cons (pv 3) pa_nil))))))
      (pss_one (ps_ret (pe_cmpR (op_eqD hr.u64) (pe_callB (cr_repr hgd hr.u60) rfl T.n_repr (by decide +kernel) (pa_cons (pv 2) pa_nil)) (pe_callB (cr_repr hgd hr.u60) rfl T.n_repr (by decide +kernel) (pa_cons (pv 1) pa_nil)) (nomark _))))))
abbrev s_web_parts : Stmt := top 30
theorem sc_web_parts : FnScope ["text", "words", "at", "rooms", "ties", "room"] ["text"] (defScope s_web_parts) := ⟨rfl, rfl, rfl, by decide +kernel, rfl, by decide +kernel, by decide +kernel⟩
theorem k_web_parts (T : Tx K mg ca) (F : Has K mg "web_parts" "web_parts" s_web_parts ["text"] []) (h_ties_of_words : Cal P w K mg base 5 "ties_of_words" [] (spP ⟨K, ca⟩ 1 d_ties_of_words)) (h_is_name_wordlooks : Cal P w K mg base 4 "is_name_wordlooks" [] (spP ⟨K, ca⟩ 1 d_is_name_wordlooks)) : Cal P w K mg base 6 "web_parts" [] (spP ⟨K, ca⟩ 1 d_web_parts) := by
  refine cal_fnP (ca := ca) (k := 5) (n := 6) rfl rfl rfl F sc_web_parts (by decide) (body := b_web_parts) fun f cdv A outer s H E hr => ?_
  exact ex_mk (sndS_seq (sndS_asg (by decide) (Snd.frz (snd_split snd_var snd_str)))
      (sndS_seq (sndS_if (snd_test (snd_op opE_notIn snd_str (Snd.rd snd_var))) sndS_never sndS_next)
      (sndS_seq (sndS_asg (by decide) (snd_idx snd_var snd_str))
      (sndS_seq (sndS_asg (by decide) (snd_slE slE_U snd_var snd_oNone (snd_oSome snd_var)))
      (sndS_seq (sndS_asg (by decide) (snd_call0 (fun _ _ h => fnP_len h) (snd_cons (snd_slE slE_U snd_var (snd_oSome (snd_op opE_add snd_var (Snd.rd snd_int))) snd_oNone) snd_nil)))
      (sndS_seq (sndS_if (snd_or (snd_test (snd_isN (Snd.rd snd_var))) (snd_not (snd_tru (Snd.rd (snd_cb1 unE_allT (Snd.frr (snd_comp (snd_iSeq snd_var) (tg_name (i := 5)) (by decide) snd_yes (snd_call0 (fun _ _ h => fnP_len h) (snd_cons snd_var snd_nil))))))))) sndS_never sndS_next)
      (sndS_ret (snd_tup (snd_cons snd_var (snd_cons snd_var snd_nil))))))))))
    (pss_cons (ps_set (i := 1) sc_web_parts.nd rfl (Or.inl rfl) (pe_split (pv 0) pe_str))
      (pss_cons (ps_if (pt_cmpR (op_notInU hr.u65) pe_str (pv 1) (by rfl)) (pss_one ps_never) pss_nil)
      (pss_cons (ps_set (i := 2) sc_web_parts.nd rfl (Or.inl rfl) (pe_bm PySem.F.plainAttrs_list PySem.F.slot_list_index PySem.F.type_list_index (mt_indexD hr.u65) (pv 1) (pa_cons pe_str pa_nil)))
      (pss_cons (ps_set (i := 3) sc_web_parts.nd rfl (Or.inl rfl) (pe_slice sl_U (pv 1) po_none (po_some (pv 2))))
      (pss_cons (ps_set (i := 4) sc_web_parts.nd rfl (Or.inl rfl) (pe_cal h_ties_of_words (hr.mono (by decide)) (pa_cons (pe_slice sl_U (pv 1) (po_some (pe_op op_addU (pv 2) pe_int)) po_none) pa_nil)))
      (pss_cons (ps_if (PW.pt (pw_or (pt_cmpR op_isN (pv 4) pe_non (nomark _)) (pw_or1 (pt_not (pt_truth (pe_callB (cr_allD rfl) rfl T.n_all (by decide +kernel) (pa_cons (pe_lc (own := [("room", 5)]) rfl sc_web_parts.nd (PI.or (PI.or (pi_list (pv 3)) (pi_tup (pv 3))) (pi_str (pv 3))) (blkOk_by (own := [("room", 5)]) (N := ["text", "words", "at", "rooms", "ties", "room"]) (sc := defScope s_web_parts) (by decide +kernel)) (fun _ _ _ _ _ => (pg_name (i := 5) sc_web_parts.nd rfl (Or.inl rfl))) (fun _ _ _ _ _ => pts_nil) (fun _ _ _ _ _ => (pe_cal h_is_name_wordlooks (hr.mono (by decide)) (pa_cons (pv 5) pa_nil)))) pa_nil)) (by intro _; rfl)))))) (pss_one ps_never) pss_nil)
      (pss_one (ps_ret (pe_tup (pa_cons (pv 3) (pa_cons (pv 4) pa_nil)))))))))))
abbrev s_Web : Stmt := inClass (top 37) 0
theorem sc_Web : FnScope ["self", "text", "rooms", "ties"] ["self", "text"] (defScope s_Web) := ⟨rfl, rfl, rfl, by decide +kernel, rfl, by decide +kernel, by decide +kernel⟩
theorem k_Web (T : Tx K mg ca) {f : Addr} {fd : FuncData} (F : Fun K "__init__" "Web.__init__" s_Web f fd) (M : Mk K (ca 3) f) (b : Binds K fd ["self", "text"] []) (h_check_length : Cal P w K mg base 1 "check_length" [] (spP ⟨K, ca⟩ 1 d_check_length)) (h_web_parts : Cal P w K mg base 6 "web_parts" [] (spP ⟨K, ca⟩ 1 d_web_parts)) (h_checked_rooms : Cal P w K mg base 5 "checked_rooms" [] (spP ⟨K, ca⟩ 1 d_checked_rooms)) (h_ordered_ties : Cal P w K mg base 2 "ordered_ties" [] (spP ⟨K, ca⟩ 2 d_ordered_ties)) (h_web_text : Cal P w K mg base 2 "web_text" [] (spP ⟨K, ca⟩ 2 d_web_text)) : CalM P w K mg base 7 "Web" (ca 3) (spI ⟨K, ca⟩ 2 d_Web) := by
  refine calM_fnI (ca := ca) (k := 6) (n := 4) rfl rfl rfl F T.m_Web M b sc_Web (by decide) (body := b_Web) fun f cdv A outer s H E hr => ?_
  exact ex_mk (sndS_seq (sndS_drop (snd_call0 (fun _ _ h => fnP_len h) (snd_cons snd_var snd_nil)))
      (sndS_seq (sndS_unp (is := [2, 3]) (by decide) (snd_call0 (fun _ _ h => fnP_len h) (snd_cons snd_var snd_nil)))
      (sndS_seq (sndS_setF (C := 3) T.cl_Web T.na_Web_rooms (snd_call0 (fun _ _ h => fnP_len h) (snd_cons snd_var snd_nil)))
      (sndS_seq (sndS_setF (C := 3) T.cl_Web T.na_Web_ties (snd_call0 (fun _ _ h => fnP_len h) (snd_cons (snd_fld (C := 3) T.cl_Web T.na_Web_rooms snd_own) (snd_cons snd_var snd_nil))))
      (sndS_setF (C := 3) T.cl_Web T.na_Web_text (snd_call0 (fun _ _ h => fnP_len h) (snd_cons (snd_fld (C := 3) T.cl_Web T.na_Web_rooms snd_own) (snd_cons (snd_fld (C := 3) T.cl_Web T.na_Web_ties snd_own) snd_nil))))))))
    (pss_cons (ps_expr (pe_cal h_check_length (hr.mono (by decide)) (pa_cons (pv 1) pa_nil)))
      (pss_cons (ps_asg (pe_cal h_web_parts (hr.mono (by decide)) (pa_cons (pv 1) pa_nil)) (pg_tup rfl (pgs_cons (pg_name (i := 2) sc_Web.nd rfl (Or.inl rfl)) (pgs_cons (pg_name (i := 3) sc_Web.nd rfl (Or.inl rfl)) pgs_nil))))
      (pss_cons (ps_fld (pv 0) (pe_cal h_checked_rooms (hr.mono (by decide)) (pa_cons (pv 2) pa_nil)) rfl)
      (pss_cons (ps_fld (pv 0) (pe_cal h_ordered_ties (hr.mono (by decide)) (pa_cons (pe_fld (pv 0) rfl) (pa_cons (pv 3) pa_nil))) rfl)
      (pss_one (ps_fld (pv 0) (pe_cal h_web_text (hr.mono (by decide)) (pa_cons (pe_fld (pv 0) rfl) (pa_cons (pe_fld (pv 0) rfl) pa_nil))) rfl))))))
abbrev s_web_of : Stmt := top 38
theorem sc_web_of : FnScope ["rooms", "ties", "own", "names", "ordered", "tie"] ["rooms", "ties", "own"] (defScope s_web_of) := ⟨rfl, rfl, rfl, by decide +kernel, rfl, by decide +kernel, by decide +kernel⟩
theorem k_web_of (T : Tx K mg ca) (F : Has K mg "web_of" "web_of" s_web_of ["rooms", "ties", "own"] [.bl true]) (h_checked_rooms : Cal P w K mg base 5 "checked_rooms" [] (spP ⟨K, ca⟩ 1 d_checked_rooms)) (h_ordered_ties : Cal P w K mg base 2 "ordered_ties" [] (spP ⟨K, ca⟩ 2 d_ordered_ties)) (h_Web : CalM P w K mg base 7 "Web" (ca 3) (spI ⟨K, ca⟩ 2 d_Web)) (h_web_text : Cal P w K mg base 2 "web_text" [] (spP ⟨K, ca⟩ 2 d_web_text)) : Cal P w K mg base 9 "web_of" [.bl true] (spP ⟨K, ca⟩ 3 d_web_of) := by
  refine cal_fnP (ca := ca) (k := 8) (n := 6) rfl rfl rfl F sc_web_of (by decide) (body := b_web_of) fun f cdv A outer s H E hr => ?_
  exact ex_mk (sndS_seq (sndS_asg (by decide) (snd_call0 (fun _ _ h => fnP_len h) (snd_cons snd_var snd_nil)))
      (sndS_seq (sndS_asg (by decide) (snd_call0 (fun _ _ h => fnP_len h) (snd_cons snd_var (snd_cons snd_var snd_nil))))
      (sndS_seq (sndS_if (snd_and (snd_not (snd_tru (Snd.rd snd_var))) (snd_tru (Snd.frr (snd_comp (snd_iSeq snd_var) (tg_name (i := 5)) (by decide) (snd_test (snd_op opE_eq (snd_op opE_ix snd_var (Snd.rd snd_int)) (Snd.rd (snd_op opE_ix snd_var (Snd.rd snd_int))))) snd_var)))) sndS_never sndS_next)
      (sndS_ret (Snd.frz (snd_make0 (C := 3) (fun _ _ _ _ h => fnI_len h) (snd_cons (snd_call0 (fun _ _ h => fnP_len h) (snd_cons snd_var (snd_cons snd_var snd_nil))) snd_nil)))))))
    (pss_cons (ps_set (i := 3) sc_web_of.nd rfl (Or.inl rfl) (pe_cal h_checked_rooms (hr.mono (by decide)) (pa_cons (pv 0) pa_nil)))
      (pss_cons (ps_set (i := 4) sc_web_of.nd rfl (Or.inl rfl) (pe_cal h_ordered_ties (hr.mono (by decide)) (pa_cons (pv 3) (pa_cons (pv 1) pa_nil))))
      (pss_cons (ps_if (PW.pt (pw_and (pt_not (pt_truth (pv 2) (by intro _; rfl))) (pw_and1 (pt_truth (pe_lc (own := [("tie", 5)]) rfl sc_web_of.nd (PI.or (PI.or (pi_list (pv 4)) (pi_tup (pv 4))) (pi_str (pv 4))) (blkOk_by (own := [("tie", 5)]) (N := ["rooms", "ties", "own", "names", "ordered", "tie"]) (sc := defScope s_web_of) (by decide +kernel)) (fun _ _ _ _ _ => (pg_name (i := 5) sc_web_of.nd rfl (Or.inl rfl))) (fun _ _ _ _ _ => (pts_one (pt_cmpR (op_eqD hr.u64) (pe_ix ix_seq (pv 5) pe_int (fun _ _ => rfl)) (pe_ix ix_seq (pv 5) pe_int (fun _ _ => rfl)) (nomark _)))) (fun _ _ _ _ _ => (pv 5))) (by intro _; rfl))))) (pss_one ps_never) pss_nil)
      (pss_one (ps_ret (pe_calM h_Web (hr.mono (by decide)) (pa_cons (pe_cal h_web_text (hr.mono (by decide)) (pa_cons (pv 3) (pa_cons (pv 4) pa_nil))) pa_nil)))))))
abbrev s__law_web_by : Stmt := top 60
theorem sc__law_web_by : FnScope ["bag", "names", "ties", "pairs"] ["bag", "names", "ties"] (defScope s__law_web_by) := ⟨rfl, rfl, rfl, by decide +kernel, rfl, by decide +kernel, by decide +kernel⟩
theorem k__law_web_by (T : Tx K mg ca) (F : Has K mg "_law_web_by" "_law_web_by" s__law_web_by ["bag", "names", "ties"] []) (h__law_pairs : Cal P w K mg base 1 "_law_pairs" [] (spP ⟨K, ca⟩ 2 d__law_pairs)) (h__law_mixed : Cal P w K mg base 2 "_law_mixed" [] (spI ⟨K, ca⟩ 2 d__law_mixed)) (h__law_draw : Cal P w K mg base 1 "_law_draw" [] (spI ⟨K, ca⟩ 2 d__law_draw)) (h_Web : CalM P w K mg base 7 "Web" (ca 3) (spI ⟨K, ca⟩ 2 d_Web)) (h__law_xtext : Cal P w K mg base 1 "_law_xtext" [] (spP ⟨K, ca⟩ 2 d__law_xtext)) (h_web_of : Cal P w K mg base 9 "web_of" [.bl true] (spP ⟨K, ca⟩ 3 d_web_of)) : Cal P w K mg base 10 "_law_web_by" [] (spI ⟨K, ca⟩ 3 d__law_web_by) := by
  refine cal_fnI (ca := ca) (k := 9) (n := 4) rfl rfl rfl F sc__law_web_by (by decide) (body := b__law_web_by) fun f cdv A outer s H E hr => ?_
  exact ex_mk (sndS_seq (sndS_asg (by decide) (snd_call0 (fun _ _ h => fnP_len h) (snd_cons snd_var (snd_cons (snd_callI0 (fun _ _ _ _ h => fnI_len h) (snd_cons snd_var snd_nil)) snd_nil))))
      (sndS_seq (sndS_asg (by decide) (snd_op opE_add snd_var (Snd.rd (snd_slE slE_U snd_var snd_oNone (snd_oSome (snd_callI0 (fun _ _ _ _ h => fnI_len h) (snd_cons snd_int snd_nil)))))))
      (sndS_seq (sndS_if (snd_test (snd_op opE_eq (snd_callI0 (fun _ _ _ _ h => fnI_len h) (snd_cons snd_int snd_nil)) (Snd.rd snd_int))) (sndS_ret (Snd.frz (snd_make0 (C := 3) (fun _ _ _ _ h => fnI_len h) (snd_cons (snd_call0 (fun _ _ h => fnP_len h) (snd_cons snd_var (snd_cons snd_var snd_nil))) snd_nil)))) sndS_next)
      (sndS_ret (snd_call (E := E0) (dds := [.bl true]) (dvs := [.bl true]) (fun _ => ⟨_, _, rfl, rfl, rfl⟩) (fun _ _ h => fnP_len h) (snd_cons (Snd.frz (snd_cb1F unF_list (Snd.rd snd_var))) (snd_cons snd_var snd_nil)))))))
    (pss_cons (ps_set (i := 3) sc__law_web_by.nd rfl (Or.inl rfl) (pe_cal h__law_pairs (hr.mono (by decide)) (pa_cons (pv 1) (pa_cons (pe_cal h__law_mixed (hr.mono (by decide)) (pa_cons (pv 0) (pa_cons (pv 2) pa_nil))) pa_nil))))
      (pss_cons (ps_set (i := 3) sc__law_web_by.nd rfl (Or.inl rfl) (pe_op op_addU (pv 3) (pe_slice sl_U (pv 3) po_none (po_some (pe_cal h__law_draw (hr.mono (by decide)) (pa_cons (pv 0) (pa_cons pe_int pa_nil)))))))
      (pss_cons (ps_if (pt_cmpR (op_eqD hr.u64) (pe_cal h__law_draw (hr.mono (by decide)) (pa_cons (pv 0) (pa_cons pe_int pa_nil))) pe_int (nomark _)) (pss_one (ps_ret (pe_calM h_Web (hr.mono (by decide)) (pa_cons (pe_cal h__law_xtext (hr.mono (by decide)) (pa_cons (pv 1) (pa_cons (pv 3) pa_nil))) pa_nil)))) pss_nil)
      (pss_one (ps_ret (pe_cal h_web_of (hr.mono (by decide)) (pa_cons (pe_callTy call_list_of rfl T.n_list (by decide +kernel) (pa_cons (pv 1) pa_nil)) (pa_cons (pv 3) pa_nil))))))))
abbrev s__law_lots : Stmt := top 62
theorem sc__law_lots : FnScope ["size", "ties", "by", "found", "r", "mask", "lot", "tells"] ["size", "ties"] (defScope s__law_lots) := ⟨rfl, rfl, rfl, by decide +kernel, rfl, by decide +kernel, by decide +kernel⟩
theorem k__law_lots (T : Tx K mg ca) (F : Has K mg "_law_lots" "_law_lots" s__law_lots ["size", "ties"] []) (h__law_tellers : Cal P w K mg base 1 "_law_tellers" [] (spP ⟨K, ca⟩ 2 d__law_tellers)) (h__law_joined : Cal P w K mg base 1 "_law_joined" [] (spP ⟨K, ca⟩ 1 d__law_joined)) : Cal P w K mg base 2 "_law_lots" [] (spP ⟨K, ca⟩ 2 d__law_lots) := by
  refine cal_fnP (ca := ca) (k := 1) (n := 8) rfl rfl rfl F sc__law_lots (by decide) (body := b__law_lots) fun f cdv A outer s H E hr => ?_
  exact ex_mk (sndS_seq (sndS_parT (b1 := false) (b2 := true) (by decide) (by decide) (Snd.frz (snd_comp (snd_rng1 (Snd.rd snd_var)) (tg_name (i := 4)) (by decide) snd_yes (snd_call0 (fun _ _ h => fnP_len h) (snd_cons snd_var (snd_cons snd_var snd_nil))))) snd_lnew)
      (sndS_seq (sndS_for (snd_rng2 snd_int (Snd.rd (snd_op opE_shl snd_int (Snd.rd snd_var)))) (tg_name (i := 5)) (by decide) (by decide) (sndS_seq (sndS_asg (by decide) (Snd.frz (snd_comp (snd_rng1 (Snd.rd snd_var)) (tg_name (i := 4)) (by decide) (snd_tru (Snd.rd (snd_op opE_band (snd_op opE_shr snd_var (Snd.rd snd_var)) (Snd.rd snd_int)))) snd_var)))
      (sndS_if (snd_tru (Snd.rd (snd_cb1 unE_allT (Snd.frr (snd_comp (snd_iSeq snd_var) (tg_name (i := 4)) (by decide) snd_yes (snd_op opE_ix snd_var (Snd.rd snd_var))))))) (sndS_seq (sndS_asg (by decide) (snd_call0 (fun _ _ h => fnP_len h) (snd_cons (Snd.frz (snd_comp (snd_iSeq snd_var) (tg_name (i := 4)) (by decide) snd_yes (snd_op opE_ix snd_var (Snd.rd snd_var)))) snd_nil)))
      (sndS_if (snd_and (snd_test (snd_op opE_eq (snd_lenSet (Snd.rd snd_var)) (Snd.rd (snd_cb1 unE_len (Snd.rd snd_var))))) (snd_tru (Snd.rd (snd_cb1 unE_allT (Snd.frr (snd_comp (snd_iSeq snd_var) (tg_name (i := 4)) (by decide) snd_yes (snd_op opE_in snd_var (Snd.rd snd_var)))))))) (sndS_drop (snd_app snd_var)) sndS_next)) sndS_next)))
      (sndS_frz (by decide) (sndS_ret snd_var))))
    (pss_cons (ps_asg (pe_tup (pa_cons (pe_lc (own := [("r", 4)]) rfl sc__law_lots.nd (pi_range1 rfl T.n_range (pa_cons (pv 0) pa_nil)) (blkOk_by (own := [("r", 4)]) (N := ["size", "ties", "by", "found", "r", "mask", "lot", "tells"]) (sc := defScope s__law_lots) (by decide +kernel)) (fun _ _ _ _ _ => (pg_name (i := 4) sc__law_lots.nd rfl (Or.inl rfl))) (fun _ _ _ _ _ => pts_nil) (fun _ _ _ _ _ => (pe_cal h__law_tellers (hr.mono (by decide)) (pa_cons (pv 1) (pa_cons (pv 4) pa_nil))))) (pa_cons (pe_lst pa_nil) pa_nil))) (pg_tup rfl (pgs_cons (pg_name (i := 2) sc__law_lots.nd rfl (Or.inr rfl)) (pgs_cons (pg_name (i := 3) sc__law_lots.nd rfl (Or.inl rfl)) pgs_nil))))
      (pss_cons (ps_for PassesOwn.never rfl (pi_range2 rfl T.n_range (pa_cons pe_int (pa_cons (pe_op op_shl pe_int (pv 0)) pa_nil))) (pg_name (i := 5) sc__law_lots.nd rfl (Or.inr rfl)) (pss_cons (ps_setLc (i := 6) (own := [("r", 4)]) rfl sc__law_lots.nd rfl rfl (sw_true rfl rfl rfl (by decide +kernel)) (pi_range1 rfl T.n_range (pa_cons (pv 0) pa_nil)) (blkOk_by (own := [("r", 4)]) (N := ["size", "ties", "by", "found", "r", "mask", "lot", "tells"]) (sc := defScope s__law_lots) (by decide +kernel)) (fun _ _ _ _ _ => (pg_name (i := 4) sc__law_lots.nd rfl (Or.inl rfl))) (fun _ _ _ _ _ => (pts_one (pt_truth (pe_op op_and (pe_op op_shr (pv 5) (pv 4)) pe_int) (by intro _; rfl)))) (fun _ _ _ _ _ => (pv 4)))
      (pss_one (ps_if (pt_truth (pe_callB (cr_allD rfl) rfl T.n_all (by decide +kernel) (pa_cons (pe_lc (own := [("r", 4)]) rfl sc__law_lots.nd (PI.or (PI.or (pi_list (pv 6)) (pi_tup (pv 6))) (pi_str (pv 6))) (blkOk_by (own := [("r", 4)]) (N := ["size", "ties", "by", "found", "r", "mask", "lot", "tells"]) (sc := defScope s__law_lots) (by decide +kernel)) (fun _ _ _ _ _ => (pg_name (i := 4) sc__law_lots.nd rfl (Or.inl rfl))) (fun _ _ _ _ _ => pts_nil) (fun _ _ _ _ _ => (pe_ix ix_seq (pv 2) (pv 4) (fun _ _ => rfl)))) pa_nil)) (by intro _; rfl)) (pss_cons (ps_set (i := 7) sc__law_lots.nd rfl (Or.inr rfl) (pe_cal h__law_joined (hr.mono (by decide)) (pa_cons (pe_lc (own := [("r", 4)]) rfl sc__law_lots.nd (PI.or (PI.or (pi_list (pv 6)) (pi_tup (pv 6))) (pi_str (pv 6))) (blkOk_by (own := [("r", 4)]) (N := ["size", "ties", "by", "found", "r", "mask", "lot", "tells"]) (sc := defScope s__law_lots) (by decide +kernel)) (fun _ _ _ _ _ => (pg_name (i := 4) sc__law_lots.nd rfl (Or.inl rfl))) (fun _ _ _ _ _ => pts_nil) (fun _ _ _ _ _ => (pe_ix ix_seq (pv 2) (pv 4) (fun _ _ => rfl)))) pa_nil)))
      (pss_one (ps_if (PW.pt (pw_and (pt_cmpR (op_eqD hr.u64) (pe_lenSetU rfl T.n_len rfl T.n_set (pv 7)) (pe_callB cr_lenU rfl T.n_len (by decide +kernel) (pa_cons (pv 7) pa_nil)) (nomark _)) (pw_and1 (pt_truth (pe_callB (cr_allD rfl) rfl T.n_all (by decide +kernel) (pa_cons (pe_lc (own := [("r", 4)]) rfl sc__law_lots.nd (PI.or (PI.or (pi_list (pv 6)) (pi_tup (pv 6))) (pi_str (pv 6))) (blkOk_by (own := [("r", 4)]) (N := ["size", "ties", "by", "found", "r", "mask", "lot", "tells"]) (sc := defScope s__law_lots) (by decide +kernel)) (fun _ _ _ _ _ => (pg_name (i := 4) sc__law_lots.nd rfl (Or.inl rfl))) (fun _ _ _ _ _ => pts_nil) (fun _ _ _ _ _ => (pe_cmpR (op_inU hr.u65) (pv 4) (pv 7) (by rfl)))) pa_nil)) (by intro _; rfl))))) (pss_one (ps_expr (pe_bm PySem.F.plainAttrs_list PySem.F.slot_list_append PySem.F.type_list_append mt_append (pv 3) (pa_cons (pv 6) pa_nil)))) pss_nil))) pss_nil))))
      (pss_one (ps_ret (pv 3)))))
abbrev s_law : Stmt := top 65
theorem sc_law : FnScope ["script", "bag", "names", "ties", "size", "others", "spots", "more", "k", "lap", "chord", "few", "thirds", "kept", "first", "due", "x", "due_2", "due_3"] ["script"] (defScope s_law) := ⟨rfl, rfl, rfl, by decide +kernel, rfl, by decide +kernel, by decide +kernel⟩
theorem k_law (T : Tx K mg ca) {f : Addr} {fd : FuncData} (F : Fun K "law" "law" s_law f fd) (h__law_bag : Cal P w K mg base 1 "_law_bag" [] (spF ⟨K, ca⟩ 1 d__law_bag)) (h__law_web : Cal P w K mg base 4 "_law_web" [] (spI ⟨K, ca⟩ 2 d__law_web)) (h__law_draw : Cal P w K mg base 1 "_law_draw" [] (spI ⟨K, ca⟩ 2 d__law_draw)) (h__law_fresh : Cal P w K mg base 3 "_law_fresh" [] (spI ⟨K, ca⟩ 3 d__law_fresh)) (h__law_mixed : Cal P w K mg base 2 "_law_mixed" [] (spI ⟨K, ca⟩ 2 d__law_mixed)) (h__law_of : Cal P w K mg base 2 "_law_of" [] (spI ⟨K, ca⟩ 2 d__law_of)) (h__law_bare_ties : Cal P w K mg base 3 "_law_bare_ties" [] (spI ⟨K, ca⟩ 2 d__law_bare_ties)) (h__law_web_by : Cal P w K mg base 10 "_law_web_by" [] (spI ⟨K, ca⟩ 3 d__law_web_by)) (h__law_lots : Cal P w K mg base 2 "_law_lots" [] (spP ⟨K, ca⟩ 2 d__law_lots)) (h__law_named : Cal P w K mg base 1 "_law_named" [] (spP ⟨K, ca⟩ 2 d__law_named)) (h__law_bares : Cal P w K mg base 3 "_law_bares" [] (spP ⟨K, ca⟩ 2 d__law_bares)) (h__law_lots_told : CalD P w K mg base 5 "_law_lots_told" (spP ⟨K, ca⟩ 2 d__law_lots_told)) : FnD P w K mg base 11 f fd ["script"] (spP ⟨K, ca⟩ 1 d_law) := by
  refine fnD_law (ca := ca) (k := 10) (n := 19) rfl rfl rfl F sc_law (by decide) (body := b_law) fun cdv A outer s H E hgd hr => ?_
  exact ex_mk (sndS_seq (sndS_asgO (by decide) (snd_callF0 (fun _ _ h => fnF_len h) (snd_cons snd_var snd_nil)))
      (sndS_seq (sndS_unp (is := [2, 3]) (by decide) (snd_callI0 (fun _ _ _ _ h => fnI_len h) (snd_cons snd_int snd_nil)))
      (sndS_seq (sndS_asg (by decide) (snd_op opE_add snd_int (Snd.rd (snd_callI0 (fun _ _ _ _ h => fnI_len h) (snd_cons snd_int snd_nil)))))
      (sndS_seq (sndS_parT (b1 := false) (b2 := false) (by decide) (by decide) (snd_callI0 (fun _ _ _ _ h => fnI_len h) (snd_cons snd_var (snd_cons snd_var snd_nil))) (snd_callI0 (fun _ _ _ _ h => fnI_len h) (snd_cons (Snd.frz (snd_lrg1 snd_var)) snd_nil)))
      (sndS_seq (sndS_asg (by decide) (Snd.frz (snd_comp (snd_rng1 (Snd.rd snd_var)) (tg_name (i := 8)) (by decide) snd_yes (snd_tup (snd_cons (snd_op opE_ix snd_var (Snd.rd (snd_op opE_sub snd_var (Snd.rd snd_int)))) (snd_cons (snd_op opE_ix snd_var (Snd.rd snd_var)) snd_nil))))))
      (sndS_seq (sndS_for (snd_rng1 (Snd.rd (snd_callI0 (fun _ _ _ _ h => fnI_len h) (snd_cons snd_int snd_nil)))) (tg_name (i := 9)) (by decide) (by decide) (sndS_seq (sndS_asg (by decide) (snd_tup (snd_cons (snd_callI0 (fun _ _ _ _ h => fnI_len h) (snd_cons snd_var snd_nil)) (snd_cons (snd_callI0 (fun _ _ _ _ h => fnI_len h) (snd_cons snd_var snd_nil)) snd_nil))))
      (sndS_asg (by decide) (snd_if (snd_test (snd_op opE_in snd_var (Snd.rd snd_var))) snd_var (snd_op opE_add snd_var (Snd.frr (snd_lst (snd_cons snd_var snd_nil))))))))
      (sndS_seq (sndS_asg (by decide) (snd_callI0 (fun _ _ _ _ h => fnI_len h) (snd_cons (Snd.frz (snd_lst (snd_cons snd_int (snd_cons snd_int (snd_cons snd_int (snd_cons snd_int snd_nil)))))) snd_nil)))
      (sndS_seq (sndS_parT (b1 := false) (b2 := false) (by decide) (by decide) (snd_callI0 (fun _ _ _ _ h => fnI_len h) (snd_cons snd_var (snd_cons (Snd.frz snd_lnew) snd_nil))) (snd_callI0 (fun _ _ _ _ h => fnI_len h) (snd_cons snd_var snd_nil)))
      (sndS_seq (sndS_asg (by decide) (snd_callI0 (fun _ _ _ _ h => fnI_len h) (snd_cons snd_var (snd_cons snd_var snd_nil))))
      (sndS_seq (sndS_asg (by decide) (Snd.frz (snd_comp (snd_iSeq (snd_call0 (fun _ _ h => fnP_len h) (snd_cons (snd_cb1 unE_len (Snd.rd snd_var)) (snd_cons snd_var snd_nil)))) (tg_name (i := 16)) (by decide) snd_yes (snd_call0 (fun _ _ h => fnP_len h) (snd_cons snd_var (snd_cons snd_var snd_nil))))))
      (sndS_seq (sndS_if (snd_or (snd_not (snd_tru (Snd.rd (snd_call0 (fun _ _ h => fnP_len h) (snd_cons snd_var (snd_cons snd_var snd_nil)))))) (snd_test (snd_op opE_ne (snd_op opE_eq snd_var (Snd.frr snd_lnew)) (Snd.rd (snd_op opE_eq (snd_call0 (fun _ _ h => fnP_len h) (snd_cons (snd_cb1 unE_len (Snd.rd snd_var)) (snd_cons snd_var snd_nil))) (Snd.frr snd_lnew)))))) (sndS_ret snd_bl) sndS_next)
      (sndS_seq (sndS_asg (by decide) (Snd.frz (snd_comp (snd_iSeq (snd_call0 (fun _ _ h => fnP_len h) (snd_cons snd_var (snd_cons snd_var snd_nil)))) (tg_name (i := 16)) (by decide) snd_yes (snd_call0 (fun _ _ h => fnP_len h) (snd_cons snd_var (snd_cons snd_var snd_nil))))))
      (sndS_seq (sndS_asg (by decide) (Snd.frz (snd_comp (snd_iSeq (snd_call0 (fun _ _ h => fnP_len h) (snd_cons snd_var (snd_cons snd_var snd_nil)))) (tg_name (i := 16)) (by decide) snd_yes (snd_call0 (fun _ _ h => fnP_len h) (snd_cons snd_var (snd_cons snd_var snd_nil))))))
      (sndS_seq (sndS_if (snd_or (snd_not (snd_tru (Snd.rd (snd_call0 (fun _ _ h => fnP_len h) (snd_cons (snd_callI0 (fun _ _ _ _ h => fnI_len h) (snd_cons snd_var (snd_cons snd_var snd_nil))) (snd_cons snd_var snd_nil)))))) (snd_test (snd_op opE_eq snd_var (Snd.frr snd_lnew)))) (sndS_ret snd_bl) sndS_next)
      (sndS_ret (snd_andV (snd_call0 (fun _ _ h => fnP_len h) (snd_cons (snd_callI0 (fun _ _ _ _ h => fnI_len h) (snd_cons snd_var (snd_cons snd_var snd_nil))) (snd_cons snd_var snd_nil))) (snd_call0 (fun _ _ h => fnP_len h) (snd_cons snd_var (snd_cons snd_var snd_nil)))))))))))))))))))
    (pss_cons (ps_set (i := 1) sc_law.nd rfl (Or.inl rfl) (pe_cal h__law_bag (hr.mono (by decide)) (pa_cons (pv 0) pa_nil)))
      (pss_cons (ps_asg (pe_cal h__law_web (hr.mono (by decide)) (pa_cons (pv 1) (pa_cons pe_int pa_nil))) (pg_tup rfl (pgs_cons (pg_name (i := 2) sc_law.nd rfl (Or.inr rfl)) (pgs_cons (pg_name (i := 3) sc_law.nd rfl (Or.inl rfl)) pgs_nil))))
      (pss_cons (ps_set (i := 4) sc_law.nd rfl (Or.inl rfl) (pe_op op_addU pe_int (pe_cal h__law_draw (hr.mono (by decide)) (pa_cons (pv 1) (pa_cons pe_int pa_nil)))))
      (pss_cons (ps_asg (pe_tup (pa_cons (pe_cal h__law_fresh (hr.mono (by decide)) (pa_cons (pv 1) (pa_cons (pv 4) (pa_cons (pv 2) pa_nil)))) (pa_cons (pe_cal h__law_mixed (hr.mono (by decide)) (pa_cons (pv 1) (pa_cons (pe_listRg rfl rfl T.n_list (prg_1 rfl T.n_range (pv 4))) pa_nil))) pa_nil))) (pg_tup rfl (pgs_cons (pg_name (i := 5) sc_law.nd rfl (Or.inr rfl)) (pgs_cons (pg_name (i := 6) sc_law.nd rfl (Or.inr rfl)) pgs_nil))))
      (pss_cons (ps_setLc (i := 7) (own := [("k", 8)]) rfl sc_law.nd rfl rfl (sw_true rfl rfl rfl (by decide +kernel)) (pi_range1 rfl T.n_range (pa_cons (pv 4) pa_nil)) (blkOk_by (own := [("k", 8)]) (N := ["script", "bag", "names", "ties", "size", "others", "spots", "more", "k", "lap", "chord", "few", "thirds", "kept", "first", "due", "x", "due_2", "due_3"]) (sc := defScope s_law) (by decide +kernel)) (fun _ _ _ _ _ => (pg_name (i := 8) sc_law.nd rfl (Or.inl rfl))) (fun _ _ _ _ _ => pts_nil) (fun _ _ _ _ _ => (pe_tup (pa_cons (pe_ix ix_seq (pv 6) (pe_op op_sub (pv 8) pe_int) (fun _ _ => rfl)) (pa_cons (pe_ix ix_seq (pv 6) (pv 8) (fun _ _ => rfl)) pa_nil)))))
      (pss_cons (ps_for PassesOwn.never rfl (pi_range1 rfl T.n_range (pa_cons (pe_cal h__law_draw (hr.mono (by decide)) (pa_cons (pv 1) (pa_cons pe_int pa_nil))) pa_nil)) (pg_name (i := 9) sc_law.nd rfl (Or.inl rfl)) (pss_cons (ps_set (i := 10) sc_law.nd rfl (Or.inl rfl) (pe_tup (pa_cons (pe_cal h__law_draw (hr.mono (by decide)) (pa_cons (pv 1) (pa_cons (pv 4) pa_nil))) (pa_cons (pe_cal h__law_draw (hr.mono (by decide)) (pa_cons (pv 1) (pa_cons (pv 4) pa_nil))) pa_nil))))
      (pss_one (ps_set (i := 7) sc_law.nd rfl (Or.inl rfl) (pe_ifExp (pt_cmpR (op_inU hr.u65) (pv 10) (pv 7) (by rfl)) (pv 7) (pe_op op_addU (pv 7) (pe_lst (pa_cons (pv 10) pa_nil))))))))
      (pss_cons (ps_set (i := 11) sc_law.nd rfl (Or.inl rfl) (pe_cal h__law_of (hr.mono (by decide)) (pa_cons (pv 1) (pa_cons (pe_lst (pa_cons pe_int (pa_cons pe_int (pa_cons pe_int (pa_cons pe_int pa_nil))))) pa_nil))))
      (pss_cons (ps_asg (pe_tup (pa_cons (pe_cal h__law_fresh (hr.mono (by decide)) (pa_cons (pv 1) (pa_cons (pv 11) (pa_cons (pe_lst pa_nil) pa_nil)))) (pa_cons (pe_cal h__law_bare_ties (hr.mono (by decide)) (pa_cons (pv 1) (pa_cons (pv 11) pa_nil))) pa_nil))) (pg_tup rfl (pgs_cons (pg_name (i := 12) sc_law.nd rfl (Or.inr rfl)) (pgs_cons (pg_name (i := 13) sc_law.nd rfl (Or.inl rfl)) pgs_nil))))
      (pss_cons (ps_set (i := 14) sc_law.nd rfl (Or.inl rfl) (pe_cal h__law_web_by (hr.mono (by decide)) (pa_cons (pv 1) (pa_cons (pv 2) (pa_cons (pv 3) pa_nil)))))
      (pss_cons (ps_setLc (i := 15) (own := [("x", 16)]) rfl sc_law.nd rfl rfl (sw_true rfl rfl rfl (by decide +kernel)) (PI.or (PI.or (pi_list (pe_cal h__law_lots (hr.mono (by decide)) (pa_cons (pe_callB cr_lenU rfl T.n_len (by decide +kernel) (pa_cons (pv 2) pa_nil)) (pa_cons (pv 3) pa_nil)))) (pi_tup (pe_cal h__law_lots (hr.mono (by decide)) (pa_cons (pe_callB cr_lenU rfl T.n_len (by decide +kernel) (pa_cons (pv 2) pa_nil)) (pa_cons (pv 3) pa_nil))))) (pi_str (pe_cal h__law_lots (hr.mono (by decide)) (pa_cons (pe_callB cr_lenU rfl T.n_len (by decide +kernel) (pa_cons (pv 2) pa_nil)) (pa_cons (pv 3) pa_nil))))) (blkOk_by (own := [("x", 16)]) (N := ["script", "bag", "names", "ties", "size", "others", "spots", "more", "k", "lap", "chord", "few", "thirds", "kept", "first", "due", "x", "due_2", "due_3"]) (sc := defScope s_law) (by decide +kernel)) (fun _ _ _ _ _ => (pg_name (i := 16) sc_law.nd rfl (Or.inl rfl))) (fun _ _ _ _ _ => pts_nil) (fun _ _ _ _ _ => (pe_cal h__law_named (hr.mono (by decide)) (pa_cons (pv 2) (pa_cons (pv 16) pa_nil)))))
      (pss_cons (ps_if (PW.pt (pw_or (pt_not (pt_truth (pe_calD h__law_lots_told hgd (hr.mono (by decide)) (pa_cons (pv 14) (pa_cons (pv 15) pa_nil))) (by intro _; rfl))) (pw_or1 (pt_cmpR (op_neD hr.u64) (pe_cmpR (op_eqD hr.u64) (pv 15) (pe_lst pa_nil) (nomark _)) (pe_cmpR (op_eqD hr.u64) (pe_cal h__law_bares (hr.mono (by decide)) (pa_cons (pe_callB cr_lenU rfl T.n_len (by decide +kernel) (pa_cons (pv 2) pa_nil)) (pa_cons (pv 3) pa_nil))) (pe_lst pa_nil) (nomark _)) (nomark _))))) (pss_one (ps_ret pe_bl)) pss_nil)
      (pss_cons (ps_setLc (i := 17) (own := [("x", 16)]) rfl sc_law.nd rfl rfl (sw_true rfl rfl rfl (by decide +kernel)) (PI.or (PI.or (pi_list (pe_cal h__law_lots (hr.mono (by decide)) (pa_cons (pv 4) (pa_cons (pv 7) pa_nil)))) (pi_tup (pe_cal h__law_lots (hr.mono (by decide)) (pa_cons (pv 4) (pa_cons (pv 7) pa_nil))))) (pi_str (pe_cal h__law_lots (hr.mono (by decide)) (pa_cons (pv 4) (pa_cons (pv 7) pa_nil))))) (blkOk_by (own := [("x", 16)]) (N := ["script", "bag", "names", "ties", "size", "others", "spots", "more", "k", "lap", "chord", "few", "thirds", "kept", "first", "due", "x", "due_2", "due_3"]) (sc := defScope s_law) (by decide +kernel)) (fun _ _ _ _ _ => (pg_name (i := 16) sc_law.nd rfl (Or.inl rfl))) (fun _ _ _ _ _ => pts_nil) (fun _ _ _ _ _ => (pe_cal h__law_named (hr.mono (by decide)) (pa_cons (pv 5) (pa_cons (pv 16) pa_nil)))))
      (pss_cons (ps_setLc (i := 18) (own := [("x", 16)]) rfl sc_law.nd rfl rfl (sw_true rfl rfl rfl (by decide +kernel)) (PI.or (PI.or (pi_list (pe_cal h__law_lots (hr.mono (by decide)) (pa_cons (pv 11) (pa_cons (pv 13) pa_nil)))) (pi_tup (pe_cal h__law_lots (hr.mono (by decide)) (pa_cons (pv 11) (pa_cons (pv 13) pa_nil))))) (pi_str (pe_cal h__law_lots (hr.mono (by decide)) (pa_cons (pv 11) (pa_cons (pv 13) pa_nil))))) (blkOk_by (own := [("x", 16)]) (N := ["script", "bag", "names", "ties", "size", "others", "spots", "more", "k", "lap", "chord", "few", "thirds", "kept", "first", "due", "x", "due_2", "due_3"]) (sc := defScope s_law) (by decide +kernel)) (fun _ _ _ _ _ => (pg_name (i := 16) sc_law.nd rfl (Or.inl rfl))) (fun _ _ _ _ _ => pts_nil) (fun _ _ _ _ _ => (pe_cal h__law_named (hr.mono (by decide)) (pa_cons (pv 12) (pa_cons (pv 16) pa_nil)))))
      (pss_cons (ps_if (PW.pt (pw_or (pt_not (pt_truth (pe_calD h__law_lots_told hgd (hr.mono (by decide)) (pa_cons (pe_cal h__law_web_by (hr.mono (by decide)) (pa_cons (pv 1) (pa_cons (pv 5) (pa_cons (pv 7) pa_nil)))) (pa_cons (pv 17) pa_nil))) (by intro _; rfl))) (pw_or1 (pt_cmpR (op_eqD hr.u64) (pv 18) (pe_lst pa_nil) (nomark _))))) (pss_one (ps_ret pe_bl)) pss_nil)
      (pss_one (ps_ret (pe_and (pe_calD h__law_lots_told hgd (hr.mono (by decide)) (pa_cons (pe_cal h__law_web_by (hr.mono (by decide)) (pa_cons (pv 1) (pa_cons (pv 12) (pa_cons (pv 13) pa_nil)))) (pa_cons (pv 18) pa_nil))) (pe_one (pe_calD h__law_lots_told hgd (hr.mono (by decide)) (pa_cons (pv 14) (pa_cons (pv 15) pa_nil)))))))))))))))))))))
end
end K47

/-! ## K47z -/
namespace K47
open PySem L2 DL
theorem fin {l : PySem.W.OpenLaw} {q : Program} {loose : List Str} {XP : (Str → Option Value) → Heap → Prop} {YP : World → Heap → Prop} {d : DefRec} {K : Params → PySem.W.Frag} (hn : l.most = some 63) (hdf : d.params.defaults = [])
    (hY : ∀ (w : World) (h : Heap), YP w h → (K w.params).In h)
    (F : ∀ (w : World) (mg : Str → Option Value) (fa : Addr) (h : Heap), (K w.params).In h → h.Ns mainGlobals mg → mg d.name = some (.ref fa) →
      ∃ (fd : FuncData) (ca : Nat → Addr), (∀ (s : Shared) (u : Value), BindsTo s fd ⟨[u], []⟩ [("script", u)]) ∧ ∀ base : Heap, (K w.params).In base → base.Ns mainGlobals mg → FnD l.prog w (K w.params) mg base 11 fa fd ["script"] (spP ⟨K w.params, ca⟩ 1 d_law)) :
    PySem.W.WalkO q loose XP YP l.row.toRowW d [] (fun f vs => PySem.call f vs) :=
  L2.walk_ofD (n := 63) (k := 11) (x := "script") (sp := fun w vs H Q E => ∀ ca, spP ⟨K w.params, ca⟩ 1 d_law vs H Q E) hn (by decide) hdf ⟨rfl, by decide, by decide⟩ hY
    (fun w mg fa h X G e => by
      obtain ⟨fd, ca, hb, hF⟩ := F w mg fa h X G e
      refine ⟨fd, hb, fun base X' G' => ⟨fun vs H Q E h => (hF base X' G').len vs H Q E (h ca), fun A outer s H args us vs Q E a1 a2 a3 a4 a5 h => (hF base X' G').run A outer s H args us vs Q E a1 a2 a3 a4 a5 (h ca)⟩⟩)
    (fun w H a ns hl _ hS ca => ⟨H, [.scr ns], .bl true, .refl _, ⟨.ref a, [], rfl, ⟨a, rfl, hS⟩, rfl⟩, rfl, law_true ns hl, fun v B' H' _ r => r⟩)
theorem has_mk {K : PySem.W.Frag} {h : Heap} {mg : Str → Option Value} {x q : Str} {st : Stmt} {f : Addr} {ps : List Str} {oc : Value} {od an : Option Addr} {osl : Array (Option Value)} {kV doc pm cdv ct : Value} (X : K.In h) (G : h.Ns mainGlobals mg)
    (b : ∀ (kV doc pm : Value) (an : Option Addr) (cdv ct : Value) (us : List Value), us.length = ps.length → bindArgs (PySem.W.fnOf q q (defArgs st) (defBody st) (defScope st) .none kV doc pm an cdv ct) ⟨us, []⟩ = pure (ps.zip us))
    (a : PySem.W.nsIn K mainGlobals x = some (some (.ref f))) (l : K.lookup f = some ⟨oc, od, .func (PySem.W.fnOf q q (defArgs st) (defBody st) (defScope st) .none kV doc pm an cdv ct), osl⟩) (c : PySem.W.codeIn K cdv q = true) (k : PySem.W.keepIn K (.ref f) = true) : Has K mg x q st ps [] :=
  ⟨f, _, [], fun_mk l c k, PySem.W.mg_of X G a, (fun_mk l c k).binds b, .nil⟩
theorem init_mk {K : PySem.W.Frag} {h : Heap} {mg : Str → Option Value} {x q : Str} {st : Stmt} {C f : Addr} {ps : List Str} {oc : Value} {od an : Option Addr} {osl : Array (Option Value)} {kV doc pm cdv ct : Value} (X : K.In h) (G : h.Ns mainGlobals mg)
    (b : ∀ (kV doc pm : Value) (an : Option Addr) (cdv ct : Value) (us : List Value), us.length = ps.length → bindArgs (PySem.W.fnOf "__init__" q (defArgs st) (defBody st) (defScope st) .none kV doc pm an cdv ct) ⟨us, []⟩ = pure (ps.zip us))
    (cn : PySem.W.nsIn K mainGlobals x = some (some (.ref C))) (mk : PySem.W.makesIn K C = true) (a : PySem.W.findIn K (.ref C) "__init__" = some (some (.ref f))) (i : PySem.W.isFn K (.ref f) = true) (l : K.lookup f = some ⟨oc, od, .func (PySem.W.fnOf "__init__" q (defArgs st) (defBody st) (defScope st) .none kV doc pm an cdv ct), osl⟩) (c : PySem.W.codeIn K cdv q = true) (k : PySem.W.keepIn K (.ref f) = true) (kc : PySem.W.keepIn K (.ref C) = true) :
    Fun K "__init__" q st f (PySem.W.fnOf "__init__" q (defArgs st) (defBody st) (defScope st) .none kV doc pm an cdv ct) ∧ Mk K C f ∧ Binds K (PySem.W.fnOf "__init__" q (defArgs st) (defBody st) (defScope st) .none kV doc pm an cdv ct) ps [] :=
  ⟨fun_mk l c k, ⟨mk, a, i, kc⟩, (fun_mk l c k).binds b⟩
theorem hasD_mk {K : PySem.W.Frag} {h : Heap} {mg : Str → Option Value} {x q : Str} {st : Stmt} {f D : Addr} {ps : List Str} {oc : Value} {od an : Option Addr} {osl : Array (Option Value)} {doc pm cdv ct u : Value} {kx : Str} {v : V} (X : K.In h) (G : h.Ns mainGlobals mg) (n : Nat) (hn : n + 1 = ps.length)
    (b : ∀ (D : Addr) (doc pm : Value) (an : Option Addr) (cdv ct : Value) (us ks : List Value), us.length = n → ks.length = 1 → KwChain D ([kx].zip ks) (bindArgs (PySem.W.fnOf q q (defArgs st) (defBody st) (defScope st) .none (.ref D) doc pm an cdv ct) ⟨us, []⟩) (ps.zip (us ++ ks)))
    (a : PySem.W.nsIn K mainGlobals x = some (some (.ref f))) (l : K.lookup f = some ⟨oc, od, .func (PySem.W.fnOf q q (defArgs st) (defBody st) (defScope st) .none (.ref D) doc pm an cdv ct), osl⟩) (c : PySem.W.codeIn K cdv q = true) (k : PySem.W.keepIn K (.ref f) = true)
    (e : PySem.W.nsIn K D kx = some (some u)) (r : RelV v u) : Has K mg x q st ps [v] := by
  have FD : FunD K q q (defArgs st) (defBody st) (defScope st) [] [(kx, v)] f (PySem.W.fnOf q q (defArgs st) (defBody st) (defScope st) .none (.ref D) doc pm an cdv ct) := ⟨⟨oc, od, .none, .ref D, doc, pm, an, cdv, ct, osl, rfl, l, c, .inl ⟨rfl, rfl⟩, .inr ⟨D, rfl, fun y hy => by rw [List.mem_singleton.1 hy]; exact ⟨u, e, r⟩⟩⟩, k⟩
  obtain ⟨ds, hv, hb⟩ := FD.binds0 (ps := ps) n (by simp) hn b
  exact ⟨f, _, ds, fun_mk l c k, PySem.W.mg_of X G a, hb, hv⟩
theorem tx_mk {K : PySem.W.Frag} {h : Heap} {mg : Str → Option Value} {C : Addr} {t_FIGURES : Tok} {t_LETTERS : Tok} {t_NAME_LENGTH : Tok} {a_NO_NAMES : Addr} {od_NO_NAMES : Option Addr} {its_NO_NAMES : Array Value} {n_NO_NAMES : Nat} {sl_NO_NAMES : Array (Option Value)} {t_TEXT_LIMIT : Tok} {t_WEB_ROOMS : Tok} {v_BadName : Value} (X : K.In h) (G : h.Ns mainGlobals mg)
    (x_m_Web : PySem.W.nsIn K mainGlobals "Web" = some (some (.ref C)))
    (x_c_FIGURES : PySem.W.nsIn K mainGlobals "FIGURES" = some (some (.str "0123456789" t_FIGURES)))
    (x_c_LETTERS : PySem.W.nsIn K mainGlobals "LETTERS" = some (some (.str "ABCDEFGHIJKLMNOPQRSTUVWXYZabcdefghijklmnopqrstuvwxyz" t_LETTERS)))
    (x_c_NAME_LENGTH : PySem.W.nsIn K mainGlobals "NAME_LENGTH" = some (some (.int 16 t_NAME_LENGTH)))
    (x_c_NO_NAMES : PySem.W.nsIn K mainGlobals "NO_NAMES" = some (some (.ref a_NO_NAMES)))
    (y_c_NO_NAMES : K.lookup a_NO_NAMES = some ⟨.type "tuple", od_NO_NAMES, .seq its_NO_NAMES n_NO_NAMES, sl_NO_NAMES⟩)
    (z_c_NO_NAMES : Vals (l_NO_NAMES.map V.str) its_NO_NAMES.toList)
    (s_c_NO_NAMES : its_NO_NAMES.size ≤ sizeLine)
    (x_c_TEXT_LIMIT : PySem.W.nsIn K mainGlobals "TEXT_LIMIT" = some (some (.int 200000 t_TEXT_LIMIT)))
    (x_c_WEB_ROOMS : PySem.W.nsIn K mainGlobals "WEB_ROOMS" = some (some (.int 12 t_WEB_ROOMS)))
    (pg_cl_Web : PySem.W.plainGet K C Str.empty = true)
    (hd_cl_Web : PySem.W.hasDictIn K C = true)
    (po_cl_Web : PySem.W.plainOver K C = true)
    (sa_cl_Web : PySem.W.findIn K (.ref C) "__setattr__" = some (some (.builtin "object.__setattr__")))
    (x_e_BadName : PySem.W.nsIn K mainGlobals "BadName" = some (some v_BadName))
    (x_n_all : PySem.W.nsIn K mainGlobals "all" = some none)
    (x_n_enumerate : PySem.W.nsIn K mainGlobals "enumerate" = some none)
    (x_n_int : PySem.W.nsIn K mainGlobals "int" = some none)
    (x_n_isinstance : PySem.W.nsIn K mainGlobals "isinstance" = some none)
    (x_n_len : PySem.W.nsIn K mainGlobals "len" = some none)
    (x_n_list : PySem.W.nsIn K mainGlobals "list" = some none)
    (x_n_max : PySem.W.nsIn K mainGlobals "max" = some none)
    (x_n_min : PySem.W.nsIn K mainGlobals "min" = some none)
    (x_n_range : PySem.W.nsIn K mainGlobals "range" = some none)
    (x_n_repr : PySem.W.nsIn K mainGlobals "repr" = some none)
    (x_n_set : PySem.W.nsIn K mainGlobals "set" = some none)
    (x_n_sorted : PySem.W.nsIn K mainGlobals "sorted" = some none)
    (x_n_str : PySem.W.nsIn K mainGlobals "str" = some none)
    (x_n_tuple : PySem.W.nsIn K mainGlobals "tuple" = some none)
    (x_na_Web_rooms : PySem.W.findIn K (.ref C) "rooms" = some none)
    (x_na_Web_text : PySem.W.findIn K (.ref C) "text" = some none)
    (x_na_Web_ties : PySem.W.findIn K (.ref C) "ties" = some none) : Tx K mg (fun _ => C) :=
  ⟨⟨_, PySem.W.mg_of X G x_c_FIGURES⟩,
   ⟨_, PySem.W.mg_of X G x_c_LETTERS⟩,
   ⟨_, PySem.W.mg_of X G x_c_NAME_LENGTH⟩,
   ⟨_, _, its_NO_NAMES, n_NO_NAMES, PySem.W.mg_of X G x_c_NO_NAMES, y_c_NO_NAMES, rfl, rfl, s_c_NO_NAMES, z_c_NO_NAMES⟩,
   ⟨_, PySem.W.mg_of X G x_c_TEXT_LIMIT⟩,
   ⟨_, PySem.W.mg_of X G x_c_WEB_ROOMS⟩,
   ⟨pg_cl_Web, hd_cl_Web, po_cl_Web, sa_cl_Web⟩,
   ⟨_, PySem.W.mg_of X G x_e_BadName⟩,
   PySem.W.mg_of X G x_m_Web,
   PySem.W.mg_none_of X G x_n_all,
   PySem.W.mg_none_of X G x_n_enumerate,
   PySem.W.mg_none_of X G x_n_int,
   PySem.W.mg_none_of X G x_n_isinstance,
   PySem.W.mg_none_of X G x_n_len,
   PySem.W.mg_none_of X G x_n_list,
   PySem.W.mg_none_of X G x_n_max,
   PySem.W.mg_none_of X G x_n_min,
   PySem.W.mg_none_of X G x_n_range,
   PySem.W.mg_none_of X G x_n_repr,
   PySem.W.mg_none_of X G x_n_set,
   PySem.W.mg_none_of X G x_n_sorted,
   PySem.W.mg_none_of X G x_n_str,
   PySem.W.mg_none_of X G x_n_tuple,
   x_na_Web_rooms,
   x_na_Web_text,
   x_na_Web_ties⟩
theorem law_of {P : Program} {w : World} {K : PySem.W.Frag} {mg : Str → Option Value} {ca : Nat → Addr} (T : Tx K mg ca)
    (F_is_run_character : Has K mg "is_run_character" "is_run_character" s_is_run_character ["character"] [])
    (F_members : Has K mg "members" "members" s_members ["bits"] [])
    (F_teller_bits : Has K mg "teller_bits" "teller_bits" s_teller_bits ["rooms", "ties"] [])
    (F_ties_in : Has K mg "ties_in" "ties_in" s_ties_in ["rooms", "bits"] [])
    (F_check_length : Has K mg "check_length" "check_length" s_check_length ["text"] [])
    (F_ties_text : Has K mg "ties_text" "ties_text" s_ties_text ["ties"] [])
    (F__law_bag : Has K mg "_law_bag" "_law_bag" s__law_bag ["script"] [])
    (F__law_draw : Has K mg "_law_draw" "_law_draw" s__law_draw ["bag", "limit"] [])
    (F__law_closed : Has K mg "_law_closed" "_law_closed" s__law_closed [] [])
    (F__law_tellers : Has K mg "_law_tellers" "_law_tellers" s__law_tellers ["ties", "r"] [])
    (F__law_hearers : Has K mg "_law_hearers" "_law_hearers" s__law_hearers ["ties", "r"] [])
    (F__law_sibs : Has K mg "_law_sibs" "_law_sibs" s__law_sibs ["ties", "a", "b"] [])
    (F__law_named : Has K mg "_law_named" "_law_named" s__law_named ["names", "places"] [])
    (F__law_pairs : Has K mg "_law_pairs" "_law_pairs" s__law_pairs ["names", "ties"] [])
    (F__law_xtext : Has K mg "_law_xtext" "_law_xtext" s__law_xtext ["names", "pairs"] [])
    (F__law_joined : Has K mg "_law_joined" "_law_joined" s__law_joined ["rows"] [])
    (F_is_name_nameforms : Has K mg "is_name_nameforms" "is_name" s_is_name_nameforms ["thing"] [])
    (F_is_lot : Has K mg "is_lot" "is_lot" s_is_lot ["bits", "lot"] [])
    (F_web_text : Has K mg "web_text" "web_text" s_web_text ["rooms", "ties"] [])
    (F_ordered_ties : Has K mg "ordered_ties" "ordered_ties" s_ordered_ties ["rooms", "ties"] [])
    (F__law_of : Has K mg "_law_of" "_law_of" s__law_of ["bag", "things"] [])
    (F__law_mixed : Has K mg "_law_mixed" "_law_mixed" s__law_mixed ["bag", "things"] [])
    (F__law_is_bare : Has K mg "_law_is_bare" "_law_is_bare" s__law_is_bare ["ties", "ring"] [])
    (F__law_rings : Has K mg "_law_rings" "_law_rings" s__law_rings ["size", "ties"] [])
    (F__law_lots : Has K mg "_law_lots" "_law_lots" s__law_lots ["size", "ties"] [])
    (F_first_doubtful : Has K mg "first_doubtful" "first_doubtful" s_first_doubtful ["things"] [])
    (F_name_of : Has K mg "name_of" "name_of" s_name_of ["thing"] [])
    (F_lots_in : Has K mg "lots_in" "lots_in" s_lots_in ["bits"] [])
    (F__law_fresh : Has K mg "_law_fresh" "_law_fresh" s__law_fresh ["bag", "count", "near"] [])
    (F__law_bares : Has K mg "_law_bares" "_law_bares" s__law_bares ["size", "ties"] [])
    (F__law_ties : Has K mg "_law_ties" "_law_ties" s__law_ties ["bag", "size"] [])
    (F__law_size : Has K mg "_law_size" "_law_size" s__law_size ["bag", "most"] [])
    (F__law_bare_ties : Has K mg "_law_bare_ties" "_law_bare_ties" s__law_bare_ties ["bag", "size"] [])
    (F_names_of : Has K mg "names_of" "names_of" s_names_of ["things"] [])
    (F_is_name : Has K mg "is_name" "is_name" s_is_name ["thing"] [])
    (F_is_name_wordlooks : Has K mg "is_name_wordlooks" "is_name" s_is_name_wordlooks ["thing"] [])
    (F_lots_of : Has K mg "lots_of" "lots_of" s_lots_of ["web"] [])
    (F__law_web : Has K mg "_law_web" "_law_web" s__law_web ["bag", "most"] [])
    (F_ties_of_words : Has K mg "ties_of_words" "ties_of_words" s_ties_of_words ["words"] [])
    (F_checked_rooms : Has K mg "checked_rooms" "checked_rooms" s_checked_rooms ["rooms"] [])
    (F__law_lots_told : Has K mg "_law_lots_told" "_law_lots_told" s__law_lots_told ["told", "due"] [])
    (F_web_parts : Has K mg "web_parts" "web_parts" s_web_parts ["text"] [])
    {f_Web : Addr} {fd_Web : FuncData} (F_Web : Fun K "__init__" "Web.__init__" s_Web f_Web fd_Web) (M_Web : Mk K (ca 3) f_Web) (b_Web : Binds K fd_Web ["self", "text"] [])
    (F_web_of : Has K mg "web_of" "web_of" s_web_of ["rooms", "ties", "own"] [V.bl true])
    (F__law_web_by : Has K mg "_law_web_by" "_law_web_by" s__law_web_by ["bag", "names", "ties"] [])
    {f : Addr} {fd : FuncData} (F : Fun K "law" "law" s_law f fd) (base : Heap) : FnD P w K mg base 11 f fd ["script"] (spP ⟨K, ca⟩ 1 d_law) := by
  have c_is_run_character := k_is_run_character (P := P) (w := w) (base := base) T F_is_run_character 
  have c_members := k_members (P := P) (w := w) (base := base) T F_members 
  have c_teller_bits := k_teller_bits (P := P) (w := w) (base := base) T F_teller_bits 
  have c_ties_in := k_ties_in (P := P) (w := w) (base := base) T F_ties_in 
  have c_check_length := k_check_length (P := P) (w := w) (base := base) T F_check_length 
  have c_ties_text := k_ties_text (P := P) (w := w) (base := base) T F_ties_text 
  have c__law_bag := k__law_bag (P := P) (w := w) (base := base) T F__law_bag 
  have c__law_draw := k__law_draw (P := P) (w := w) (base := base) T F__law_draw 
  have c__law_closed := k__law_closed (P := P) (w := w) (base := base) T F__law_closed 
  have c__law_tellers := k__law_tellers (P := P) (w := w) (base := base) T F__law_tellers 
  have c__law_hearers := k__law_hearers (P := P) (w := w) (base := base) T F__law_hearers 
  have c__law_sibs := k__law_sibs (P := P) (w := w) (base := base) T F__law_sibs 
  have c__law_named := k__law_named (P := P) (w := w) (base := base) T F__law_named 
  have c__law_pairs := k__law_pairs (P := P) (w := w) (base := base) T F__law_pairs 
  have c__law_xtext := k__law_xtext (P := P) (w := w) (base := base) T F__law_xtext 
  have c__law_joined := k__law_joined (P := P) (w := w) (base := base) T F__law_joined 
  have c_is_name_nameforms := k_is_name_nameforms (P := P) (w := w) (base := base) T F_is_name_nameforms c_is_run_character
  have c_is_lot := k_is_lot (P := P) (w := w) (base := base) T F_is_lot c_members
  have c_web_text := k_web_text (P := P) (w := w) (base := base) T F_web_text c_ties_text
  have c_ordered_ties := k_ordered_ties (P := P) (w := w) (base := base) T F_ordered_ties c_ties_in c_teller_bits
  have c__law_of := k__law_of (P := P) (w := w) (base := base) T F__law_of c__law_draw
  have c__law_mixed := k__law_mixed (P := P) (w := w) (base := base) T F__law_mixed c__law_draw
  have c__law_is_bare := k__law_is_bare (P := P) (w := w) (base := base) T F__law_is_bare c__law_sibs
  have c__law_rings := k__law_rings (P := P) (w := w) (base := base) T F__law_rings c__law_hearers
  have c__law_lots := k__law_lots (P := P) (w := w) (base := base) T F__law_lots c__law_tellers c__law_joined
  have c_first_doubtful := k_first_doubtful (P := P) (w := w) (base := base) T F_first_doubtful c_is_name_nameforms
  have c_name_of := k_name_of (P := P) (w := w) (base := base) T F_name_of c_is_name_nameforms
  have c_lots_in := k_lots_in (P := P) (w := w) (base := base) T F_lots_in c_is_lot
  have c__law_fresh := k__law_fresh (P := P) (w := w) (base := base) T F__law_fresh c__law_of c__law_draw c__law_closed
  have c__law_bares := k__law_bares (P := P) (w := w) (base := base) T F__law_bares c__law_rings c__law_is_bare
  have c__law_ties := k__law_ties (P := P) (w := w) (base := base) T F__law_ties c__law_draw c__law_mixed c__law_of
  have c__law_size := k__law_size (P := P) (w := w) (base := base) T F__law_size c__law_of
  have c__law_bare_ties := k__law_bare_ties (P := P) (w := w) (base := base) T F__law_bare_ties c__law_mixed c__law_draw c__law_is_bare
  have c_names_of := k_names_of (P := P) (w := w) (base := base) T F_names_of c_first_doubtful
  have c_is_name := k_is_name (P := P) (w := w) (base := base) T F_is_name c_name_of
  have c_is_name_wordlooks := k_is_name_wordlooks (P := P) (w := w) (base := base) T F_is_name_wordlooks c_name_of
  have c_lots_of := k_lots_of (P := P) (w := w) (base := base) T F_lots_of c_teller_bits c_lots_in c_members
  have c__law_web := k__law_web (P := P) (w := w) (base := base) T F__law_web c__law_size c__law_ties c__law_fresh
  have c_ties_of_words := k_ties_of_words (P := P) (w := w) (base := base) T F_ties_of_words c_is_name_wordlooks
  have c_checked_rooms := k_checked_rooms (P := P) (w := w) (base := base) T F_checked_rooms c_names_of
  have c__law_lots_told := k__law_lots_told (P := P) (w := w) (base := base) T F__law_lots_told c_lots_of
  have c_web_parts := k_web_parts (P := P) (w := w) (base := base) T F_web_parts c_ties_of_words c_is_name_wordlooks
  have c_Web := k_Web (P := P) (w := w) (base := base) T F_Web M_Web b_Web c_check_length c_web_parts c_checked_rooms c_ordered_ties c_web_text
  have c_web_of := k_web_of (P := P) (w := w) (base := base) T F_web_of c_checked_rooms c_ordered_ties c_Web c_web_text
  have c__law_web_by := k__law_web_by (P := P) (w := w) (base := base) T F__law_web_by c__law_pairs c__law_mixed c__law_draw c_Web c__law_xtext c_web_of
  exact k_law T F c__law_bag c__law_web c__law_draw c__law_fresh c__law_mixed c__law_of c__law_bare_ties c__law_web_by c__law_lots c__law_named c__law_bares c__law_lots_told
theorem thn {p q : Prop} (h : p) (k : p → q) : q := k h
theorem law_end {P : Program} {K : Params → PySem.W.Frag} {w : World} {h : Heap} {mg : Str → Option Value} {ca : Nat → Addr} {fa f : Addr} {oc : Value} {od an : Option Addr} {osl : Array (Option Value)} {kV doc pm cdv ct : Value} (X : (K w.params).In h) (G : h.Ns mainGlobals mg) (hmg : mg "law" = some (.ref fa))
    (H : ∀ {f : Addr} {fd : FuncData}, Fun (K w.params) "law" "law" s_law f fd → ∀ base : Heap, FnD P w (K w.params) mg base 11 f fd ["script"] (spP ⟨K w.params, ca⟩ 1 d_law))
    (a : PySem.W.nsIn (K w.params) mainGlobals "law" = some (some (.ref f))) (l : (K w.params).lookup f = some ⟨oc, od, .func (PySem.W.fnOf "law" "law" (defArgs s_law) (defBody s_law) (defScope s_law) .none kV doc pm an cdv ct), osl⟩) (c : PySem.W.codeIn (K w.params) cdv "law" = true) (k : PySem.W.keepIn (K w.params) (.ref f) = true) :
    ∃ (fd : FuncData) (ca : Nat → Addr), (∀ (s : Shared) (u : Value), BindsTo s fd ⟨[u], []⟩ [("script", u)]) ∧ ∀ base : Heap, (K w.params).In base → base.Ns mainGlobals mg → FnD P w (K w.params) mg base 11 fa fd ["script"] (spP ⟨K w.params, ca⟩ 1 d_law) := by
  have e := hmg.symm.trans (PySem.W.mg_of X G a)
  cases e
  exact ⟨_, ca, fun s v => .of_eq rfl, fun base _ _ => H (fun_mk l c k) base⟩
end K47
open PySem PySem.W PyProof.Rows L2 DL
set_option maxRecDepth 100000 in
set_option maxHeartbeats 0 in
theorem PySem.Challenge.cw_nofirst_k47_whole_lots_holds : PySem.Challenge.rw_nofirst_k47_whole_lots.Holds := by
  w_on; o_law; k_head; (case hw => w_witness2)
  k_fill
  refine K47.fin (l := PySem.Challenge.rw_nofirst_k47_whole_lots) rfl rfl (fun w h Y => PySem.W.kIn_of Y) ?F
  case F =>
    intro w mg fa h KX G hmg
    refine' K47.thn (K47.tx_mk KX G ?x_m_Web ?x_c_FIGURES ?x_c_LETTERS ?x_c_NAME_LENGTH ?x_c_NO_NAMES ?y_c_NO_NAMES ?z_c_NO_NAMES ?s_c_NO_NAMES ?x_c_TEXT_LIMIT ?x_c_WEB_ROOMS ?pg_cl_Web ?hd_cl_Web ?po_cl_Web ?sa_cl_Web ?x_e_BadName ?x_n_all ?x_n_enumerate ?x_n_int ?x_n_isinstance ?x_n_len ?x_n_list ?x_n_max ?x_n_min ?x_n_range ?x_n_repr ?x_n_set ?x_n_sorted ?x_n_str ?x_n_tuple ?x_na_Web_rooms ?x_na_Web_text ?x_na_Web_ties) ?rest
    (case x_m_Web => k_is)
    (case x_c_FIGURES => k_is)
    (case x_c_LETTERS => k_is)
    (case x_c_NAME_LENGTH => k_is)
    (case x_c_NO_NAMES => k_is)
    (case y_c_NO_NAMES => k_is)
    (case z_c_NO_NAMES => (repeat' first | exact Paired.nil | refine Paired.cons ⟨_, rfl⟩ ?_))
    (case s_c_NO_NAMES => decide)
    (case x_c_TEXT_LIMIT => k_is)
    (case x_c_WEB_ROOMS => k_is)
    (case pg_cl_Web => k_is)
    (case hd_cl_Web => k_is)
    (case po_cl_Web => k_is)
    (case sa_cl_Web => k_is)
    (case x_e_BadName => k_is)
    (case x_n_all => k_is)
    (case x_n_enumerate => k_is)
    (case x_n_int => k_is)
    (case x_n_isinstance => k_is)
    (case x_n_len => k_is)
    (case x_n_list => k_is)
    (case x_n_max => k_is)
    (case x_n_min => k_is)
    (case x_n_range => k_is)
    (case x_n_repr => k_is)
    (case x_n_set => k_is)
    (case x_n_sorted => k_is)
    (case x_n_str => k_is)
    (case x_n_tuple => k_is)
    (case x_na_Web_rooms => k_is)
    (case x_na_Web_text => k_is)
    (case x_na_Web_ties => k_is)
    intro T
    refine' K47.thn (K47.has_mk (st := K47.s_is_run_character) (x := "is_run_character") (q := "is_run_character") (ps := ["character"]) KX G (fun _ _ _ _ _ _ us hl => match us, hl with | [_], _ => rfl) ?a_is_run_character ?l_is_run_character ?c_is_run_character ?k_is_run_character) ?rest_is_run_character
    (case a_is_run_character => k_is); (case l_is_run_character => k_is); (case c_is_run_character => k_is); (case k_is_run_character => k_is)
    intro F_is_run_character
    refine' K47.thn (K47.has_mk (st := K47.s_members) (x := "members") (q := "members") (ps := ["bits"]) KX G (fun _ _ _ _ _ _ us hl => match us, hl with | [_], _ => rfl) ?a_members ?l_members ?c_members ?k_members) ?rest_members
    (case a_members => k_is); (case l_members => k_is); (case c_members => k_is); (case k_members => k_is)
    intro F_members
    refine' K47.thn (K47.has_mk (st := K47.s_teller_bits) (x := "teller_bits") (q := "teller_bits") (ps := ["rooms", "ties"]) KX G (fun _ _ _ _ _ _ us hl => match us, hl with | [_, _], _ => rfl) ?a_teller_bits ?l_teller_bits ?c_teller_bits ?k_teller_bits) ?rest_teller_bits
    (case a_teller_bits => k_is); (case l_teller_bits => k_is); (case c_teller_bits => k_is); (case k_teller_bits => k_is)
    intro F_teller_bits
    refine' K47.thn (K47.has_mk (st := K47.s_ties_in) (x := "ties_in") (q := "ties_in") (ps := ["rooms", "bits"]) KX G (fun _ _ _ _ _ _ us hl => match us, hl with | [_, _], _ => rfl) ?a_ties_in ?l_ties_in ?c_ties_in ?k_ties_in) ?rest_ties_in
    (case a_ties_in => k_is); (case l_ties_in => k_is); (case c_ties_in => k_is); (case k_ties_in => k_is)
    intro F_ties_in
    refine' K47.thn (K47.has_mk (st := K47.s_check_length) (x := "check_length") (q := "check_length") (ps := ["text"]) KX G (fun _ _ _ _ _ _ us hl => match us, hl with | [_], _ => rfl) ?a_check_length ?l_check_length ?c_check_length ?k_check_length) ?rest_check_length
    (case a_check_length => k_is); (case l_check_length => k_is); (case c_check_length => k_is); (case k_check_length => k_is)
    intro F_check_length
    refine' K47.thn (K47.has_mk (st := K47.s_ties_text) (x := "ties_text") (q := "ties_text") (ps := ["ties"]) KX G (fun _ _ _ _ _ _ us hl => match us, hl with | [_], _ => rfl) ?a_ties_text ?l_ties_text ?c_ties_text ?k_ties_text) ?rest_ties_text
    (case a_ties_text => k_is); (case l_ties_text => k_is); (case c_ties_text => k_is); (case k_ties_text => k_is)
    intro F_ties_text
    refine' K47.thn (K47.has_mk (st := K47.s__law_bag) (x := "_law_bag") (q := "_law_bag") (ps := ["script"]) KX G (fun _ _ _ _ _ _ us hl => match us, hl with | [_], _ => rfl) ?a__law_bag ?l__law_bag ?c__law_bag ?k__law_bag) ?rest__law_bag
    (case a__law_bag => k_is); (case l__law_bag => k_is); (case c__law_bag => k_is); (case k__law_bag => k_is)
    intro F__law_bag
    refine' K47.thn (K47.has_mk (st := K47.s__law_draw) (x := "_law_draw") (q := "_law_draw") (ps := ["bag", "limit"]) KX G (fun _ _ _ _ _ _ us hl => match us, hl with | [_, _], _ => rfl) ?a__law_draw ?l__law_draw ?c__law_draw ?k__law_draw) ?rest__law_draw
    (case a__law_draw => k_is); (case l__law_draw => k_is); (case c__law_draw => k_is); (case k__law_draw => k_is)
    intro F__law_draw
    refine' K47.thn (K47.has_mk (st := K47.s__law_closed) (x := "_law_closed") (q := "_law_closed") (ps := []) KX G (fun _ _ _ _ _ _ us hl => match us, hl with | [], _ => rfl) ?a__law_closed ?l__law_closed ?c__law_closed ?k__law_closed) ?rest__law_closed
    (case a__law_closed => k_is); (case l__law_closed => k_is); (case c__law_closed => k_is); (case k__law_closed => k_is)
    intro F__law_closed
    refine' K47.thn (K47.has_mk (st := K47.s__law_tellers) (x := "_law_tellers") (q := "_law_tellers") (ps := ["ties", "r"]) KX G (fun _ _ _ _ _ _ us hl => match us, hl with | [_, _], _ => rfl) ?a__law_tellers ?l__law_tellers ?c__law_tellers ?k__law_tellers) ?rest__law_tellers
    (case a__law_tellers => k_is); (case l__law_tellers => k_is); (case c__law_tellers => k_is); (case k__law_tellers => k_is)
    intro F__law_tellers
    refine' K47.thn (K47.has_mk (st := K47.s__law_hearers) (x := "_law_hearers") (q := "_law_hearers") (ps := ["ties", "r"]) KX G (fun _ _ _ _ _ _ us hl => match us, hl with | [_, _], _ => rfl) ?a__law_hearers ?l__law_hearers ?c__law_hearers ?k__law_hearers) ?rest__law_hearers
    (case a__law_hearers => k_is); (case l__law_hearers => k_is); (case c__law_hearers => k_is); (case k__law_hearers => k_is)
    intro F__law_hearers
    refine' K47.thn (K47.has_mk (st := K47.s__law_sibs) (x := "_law_sibs") (q := "_law_sibs") (ps := ["ties", "a", "b"]) KX G (fun _ _ _ _ _ _ us hl => match us, hl with | [_, _, _], _ => rfl) ?a__law_sibs ?l__law_sibs ?c__law_sibs ?k__law_sibs) ?rest__law_sibs
    (case a__law_sibs => k_is); (case l__law_sibs => k_is); (case c__law_sibs => k_is); (case k__law_sibs => k_is)
    intro F__law_sibs
    refine' K47.thn (K47.has_mk (st := K47.s__law_named) (x := "_law_named") (q := "_law_named") (ps := ["names", "places"]) KX G (fun _ _ _ _ _ _ us hl => match us, hl with | [_, _], _ => rfl) ?a__law_named ?l__law_named ?c__law_named ?k__law_named) ?rest__law_named
    (case a__law_named => k_is); (case l__law_named => k_is); (case c__law_named => k_is); (case k__law_named => k_is)
    intro F__law_named
    refine' K47.thn (K47.has_mk (st := K47.s__law_pairs) (x := "_law_pairs") (q := "_law_pairs") (ps := ["names", "ties"]) KX G (fun _ _ _ _ _ _ us hl => match us, hl with | [_, _], _ => rfl) ?a__law_pairs ?l__law_pairs ?c__law_pairs ?k__law_pairs) ?rest__law_pairs
    (case a__law_pairs => k_is); (case l__law_pairs => k_is); (case c__law_pairs => k_is); (case k__law_pairs => k_is)
    intro F__law_pairs
    refine' K47.thn (K47.has_mk (st := K47.s__law_xtext) (x := "_law_xtext") (q := "_law_xtext") (ps := ["names", "pairs"]) KX G (fun _ _ _ _ _ _ us hl => match us, hl with | [_, _], _ => rfl) ?a__law_xtext ?l__law_xtext ?c__law_xtext ?k__law_xtext) ?rest__law_xtext
    (case a__law_xtext => k_is); (case l__law_xtext => k_is); (case c__law_xtext => k_is); (case k__law_xtext => k_is)
    intro F__law_xtext
    refine' K47.thn (K47.has_mk (st := K47.s__law_joined) (x := "_law_joined") (q := "_law_joined") (ps := ["rows"]) KX G (fun _ _ _ _ _ _ us hl => match us, hl with | [_], _ => rfl) ?a__law_joined ?l__law_joined ?c__law_joined ?k__law_joined) ?rest__law_joined
    (case a__law_joined => k_is); (case l__law_joined => k_is); (case c__law_joined => k_is); (case k__law_joined => k_is)
    intro F__law_joined
    refine' K47.thn (K47.has_mk (st := K47.s_is_name_nameforms) (x := "is_name_nameforms") (q := "is_name") (ps := ["thing"]) KX G (fun _ _ _ _ _ _ us hl => match us, hl with | [_], _ => rfl) ?a_is_name_nameforms ?l_is_name_nameforms ?c_is_name_nameforms ?k_is_name_nameforms) ?rest_is_name_nameforms
    (case a_is_name_nameforms => k_is); (case l_is_name_nameforms => k_is); (case c_is_name_nameforms => k_is); (case k_is_name_nameforms => k_is)
    intro F_is_name_nameforms
    refine' K47.thn (K47.has_mk (st := K47.s_is_lot) (x := "is_lot") (q := "is_lot") (ps := ["bits", "lot"]) KX G (fun _ _ _ _ _ _ us hl => match us, hl with | [_, _], _ => rfl) ?a_is_lot ?l_is_lot ?c_is_lot ?k_is_lot) ?rest_is_lot
    (case a_is_lot => k_is); (case l_is_lot => k_is); (case c_is_lot => k_is); (case k_is_lot => k_is)
    intro F_is_lot
    refine' K47.thn (K47.has_mk (st := K47.s_web_text) (x := "web_text") (q := "web_text") (ps := ["rooms", "ties"]) KX G (fun _ _ _ _ _ _ us hl => match us, hl with | [_, _], _ => rfl) ?a_web_text ?l_web_text ?c_web_text ?k_web_text) ?rest_web_text
    (case a_web_text => k_is); (case l_web_text => k_is); (case c_web_text => k_is); (case k_web_text => k_is)
    intro F_web_text
    refine' K47.thn (K47.has_mk (st := K47.s_ordered_ties) (x := "ordered_ties") (q := "ordered_ties") (ps := ["rooms", "ties"]) KX G (fun _ _ _ _ _ _ us hl => match us, hl with | [_, _], _ => rfl) ?a_ordered_ties ?l_ordered_ties ?c_ordered_ties ?k_ordered_ties) ?rest_ordered_ties
    (case a_ordered_ties => k_is); (case l_ordered_ties => k_is); (case c_ordered_ties => k_is); (case k_ordered_ties => k_is)
    intro F_ordered_ties
    refine' K47.thn (K47.has_mk (st := K47.s__law_of) (x := "_law_of") (q := "_law_of") (ps := ["bag", "things"]) KX G (fun _ _ _ _ _ _ us hl => match us, hl with | [_, _], _ => rfl) ?a__law_of ?l__law_of ?c__law_of ?k__law_of) ?rest__law_of
    (case a__law_of => k_is); (case l__law_of => k_is); (case c__law_of => k_is); (case k__law_of => k_is)
    intro F__law_of
    refine' K47.thn (K47.has_mk (st := K47.s__law_mixed) (x := "_law_mixed") (q := "_law_mixed") (ps := ["bag", "things"]) KX G (fun _ _ _ _ _ _ us hl => match us, hl with | [_, _], _ => rfl) ?a__law_mixed ?l__law_mixed ?c__law_mixed ?k__law_mixed) ?rest__law_mixed
    (case a__law_mixed => k_is); (case l__law_mixed => k_is); (case c__law_mixed => k_is); (case k__law_mixed => k_is)
    intro F__law_mixed
    refine' K47.thn (K47.has_mk (st := K47.s__law_is_bare) (x := "_law_is_bare") (q := "_law_is_bare") (ps := ["ties", "ring"]) KX G (fun _ _ _ _ _ _ us hl => match us, hl with | [_, _], _ => rfl) ?a__law_is_bare ?l__law_is_bare ?c__law_is_bare ?k__law_is_bare) ?rest__law_is_bare
    (case a__law_is_bare => k_is); (case l__law_is_bare => k_is); (case c__law_is_bare => k_is); (case k__law_is_bare => k_is)
    intro F__law_is_bare
    refine' K47.thn (K47.has_mk (st := K47.s__law_rings) (x := "_law_rings") (q := "_law_rings") (ps := ["size", "ties"]) KX G (fun _ _ _ _ _ _ us hl => match us, hl with | [_, _], _ => rfl) ?a__law_rings ?l__law_rings ?c__law_rings ?k__law_rings) ?rest__law_rings
    (case a__law_rings => k_is); (case l__law_rings => k_is); (case c__law_rings => k_is); (case k__law_rings => k_is)
    intro F__law_rings
    refine' K47.thn (K47.has_mk (st := K47.s__law_lots) (x := "_law_lots") (q := "_law_lots") (ps := ["size", "ties"]) KX G (fun _ _ _ _ _ _ us hl => match us, hl with | [_, _], _ => rfl) ?a__law_lots ?l__law_lots ?c__law_lots ?k__law_lots) ?rest__law_lots
    (case a__law_lots => k_is); (case l__law_lots => k_is); (case c__law_lots => k_is); (case k__law_lots => k_is)
    intro F__law_lots
    refine' K47.thn (K47.has_mk (st := K47.s_first_doubtful) (x := "first_doubtful") (q := "first_doubtful") (ps := ["things"]) KX G (fun _ _ _ _ _ _ us hl => match us, hl with | [_], _ => rfl) ?a_first_doubtful ?l_first_doubtful ?c_first_doubtful ?k_first_doubtful) ?rest_first_doubtful
    (case a_first_doubtful => k_is); (case l_first_doubtful => k_is); (case c_first_doubtful => k_is); (case k_first_doubtful => k_is)
    intro F_first_doubtful
    refine' K47.thn (K47.has_mk (st := K47.s_name_of) (x := "name_of") (q := "name_of") (ps := ["thing"]) KX G (fun _ _ _ _ _ _ us hl => match us, hl with | [_], _ => rfl) ?a_name_of ?l_name_of ?c_name_of ?k_name_of) ?rest_name_of
    (case a_name_of => k_is); (case l_name_of => k_is); (case c_name_of => k_is); (case k_name_of => k_is)
    intro F_name_of
    refine' K47.thn (K47.has_mk (st := K47.s_lots_in) (x := "lots_in") (q := "lots_in") (ps := ["bits"]) KX G (fun _ _ _ _ _ _ us hl => match us, hl with | [_], _ => rfl) ?a_lots_in ?l_lots_in ?c_lots_in ?k_lots_in) ?rest_lots_in
    (case a_lots_in => k_is); (case l_lots_in => k_is); (case c_lots_in => k_is); (case k_lots_in => k_is)
    intro F_lots_in
    refine' K47.thn (K47.has_mk (st := K47.s__law_fresh) (x := "_law_fresh") (q := "_law_fresh") (ps := ["bag", "count", "near"]) KX G (fun _ _ _ _ _ _ us hl => match us, hl with | [_, _, _], _ => rfl) ?a__law_fresh ?l__law_fresh ?c__law_fresh ?k__law_fresh) ?rest__law_fresh
    (case a__law_fresh => k_is); (case l__law_fresh => k_is); (case c__law_fresh => k_is); (case k__law_fresh => k_is)
    intro F__law_fresh
    refine' K47.thn (K47.has_mk (st := K47.s__law_bares) (x := "_law_bares") (q := "_law_bares") (ps := ["size", "ties"]) KX G (fun _ _ _ _ _ _ us hl => match us, hl with | [_, _], _ => rfl) ?a__law_bares ?l__law_bares ?c__law_bares ?k__law_bares) ?rest__law_bares
    (case a__law_bares => k_is); (case l__law_bares => k_is); (case c__law_bares => k_is); (case k__law_bares => k_is)
    intro F__law_bares
    refine' K47.thn (K47.has_mk (st := K47.s__law_ties) (x := "_law_ties") (q := "_law_ties") (ps := ["bag", "size"]) KX G (fun _ _ _ _ _ _ us hl => match us, hl with | [_, _], _ => rfl) ?a__law_ties ?l__law_ties ?c__law_ties ?k__law_ties) ?rest__law_ties
    (case a__law_ties => k_is); (case l__law_ties => k_is); (case c__law_ties => k_is); (case k__law_ties => k_is)
    intro F__law_ties
    refine' K47.thn (K47.has_mk (st := K47.s__law_size) (x := "_law_size") (q := "_law_size") (ps := ["bag", "most"]) KX G (fun _ _ _ _ _ _ us hl => match us, hl with | [_, _], _ => rfl) ?a__law_size ?l__law_size ?c__law_size ?k__law_size) ?rest__law_size
    (case a__law_size => k_is); (case l__law_size => k_is); (case c__law_size => k_is); (case k__law_size => k_is)
    intro F__law_size
    refine' K47.thn (K47.has_mk (st := K47.s__law_bare_ties) (x := "_law_bare_ties") (q := "_law_bare_ties") (ps := ["bag", "size"]) KX G (fun _ _ _ _ _ _ us hl => match us, hl with | [_, _], _ => rfl) ?a__law_bare_ties ?l__law_bare_ties ?c__law_bare_ties ?k__law_bare_ties) ?rest__law_bare_ties
    (case a__law_bare_ties => k_is); (case l__law_bare_ties => k_is); (case c__law_bare_ties => k_is); (case k__law_bare_ties => k_is)
    intro F__law_bare_ties
    refine' K47.thn (K47.has_mk (st := K47.s_names_of) (x := "names_of") (q := "names_of") (ps := ["things"]) KX G (fun _ _ _ _ _ _ us hl => match us, hl with | [_], _ => rfl) ?a_names_of ?l_names_of ?c_names_of ?k_names_of) ?rest_names_of
    (case a_names_of => k_is); (case l_names_of => k_is); (case c_names_of => k_is); (case k_names_of => k_is)
    intro F_names_of
    refine' K47.thn (K47.has_mk (st := K47.s_is_name) (x := "is_name") (q := "is_name") (ps := ["thing"]) KX G (fun _ _ _ _ _ _ us hl => match us, hl with | [_], _ => rfl) ?a_is_name ?l_is_name ?c_is_name ?k_is_name) ?rest_is_name
    (case a_is_name => k_is); (case l_is_name => k_is); (case c_is_name => k_is); (case k_is_name => k_is)
    intro F_is_name
    refine' K47.thn (K47.has_mk (st := K47.s_is_name_wordlooks) (x := "is_name_wordlooks") (q := "is_name") (ps := ["thing"]) KX G (fun _ _ _ _ _ _ us hl => match us, hl with | [_], _ => rfl) ?a_is_name_wordlooks ?l_is_name_wordlooks ?c_is_name_wordlooks ?k_is_name_wordlooks) ?rest_is_name_wordlooks
    (case a_is_name_wordlooks => k_is); (case l_is_name_wordlooks => k_is); (case c_is_name_wordlooks => k_is); (case k_is_name_wordlooks => k_is)
    intro F_is_name_wordlooks
    refine' K47.thn (K47.has_mk (st := K47.s_lots_of) (x := "lots_of") (q := "lots_of") (ps := ["web"]) KX G (fun _ _ _ _ _ _ us hl => match us, hl with | [_], _ => rfl) ?a_lots_of ?l_lots_of ?c_lots_of ?k_lots_of) ?rest_lots_of
    (case a_lots_of => k_is); (case l_lots_of => k_is); (case c_lots_of => k_is); (case k_lots_of => k_is)
    intro F_lots_of
    refine' K47.thn (K47.has_mk (st := K47.s__law_web) (x := "_law_web") (q := "_law_web") (ps := ["bag", "most"]) KX G (fun _ _ _ _ _ _ us hl => match us, hl with | [_, _], _ => rfl) ?a__law_web ?l__law_web ?c__law_web ?k__law_web) ?rest__law_web
    (case a__law_web => k_is); (case l__law_web => k_is); (case c__law_web => k_is); (case k__law_web => k_is)
    intro F__law_web
    refine' K47.thn (K47.has_mk (st := K47.s_ties_of_words) (x := "ties_of_words") (q := "ties_of_words") (ps := ["words"]) KX G (fun _ _ _ _ _ _ us hl => match us, hl with | [_], _ => rfl) ?a_ties_of_words ?l_ties_of_words ?c_ties_of_words ?k_ties_of_words) ?rest_ties_of_words
    (case a_ties_of_words => k_is); (case l_ties_of_words => k_is); (case c_ties_of_words => k_is); (case k_ties_of_words => k_is)
    intro F_ties_of_words
    refine' K47.thn (K47.has_mk (st := K47.s_checked_rooms) (x := "checked_rooms") (q := "checked_rooms") (ps := ["rooms"]) KX G (fun _ _ _ _ _ _ us hl => match us, hl with | [_], _ => rfl) ?a_checked_rooms ?l_checked_rooms ?c_checked_rooms ?k_checked_rooms) ?rest_checked_rooms
    (case a_checked_rooms => k_is); (case l_checked_rooms => k_is); (case c_checked_rooms => k_is); (case k_checked_rooms => k_is)
    intro F_checked_rooms
    refine' K47.thn (K47.has_mk (st := K47.s__law_lots_told) (x := "_law_lots_told") (q := "_law_lots_told") (ps := ["told", "due"]) KX G (fun _ _ _ _ _ _ us hl => match us, hl with | [_, _], _ => rfl) ?a__law_lots_told ?l__law_lots_told ?c__law_lots_told ?k__law_lots_told) ?rest__law_lots_told
    (case a__law_lots_told => k_is); (case l__law_lots_told => k_is); (case c__law_lots_told => k_is); (case k__law_lots_told => k_is)
    intro F__law_lots_told
    refine' K47.thn (K47.has_mk (st := K47.s_web_parts) (x := "web_parts") (q := "web_parts") (ps := ["text"]) KX G (fun _ _ _ _ _ _ us hl => match us, hl with | [_], _ => rfl) ?a_web_parts ?l_web_parts ?c_web_parts ?k_web_parts) ?rest_web_parts
    (case a_web_parts => k_is); (case l_web_parts => k_is); (case c_web_parts => k_is); (case k_web_parts => k_is)
    intro F_web_parts
    refine' K47.thn (K47.init_mk (st := K47.s_Web) (q := "Web.__init__") (ps := ["self", "text"]) (x := "Web") KX G (fun _ _ _ _ _ _ us hl => match us, hl with | [_, _], _ => rfl) ?cn_Web ?mk_Web ?a_Web ?i_Web ?l_Web ?c_Web ?k_Web ?kc_Web) ?rest_Web
    (case cn_Web => k_is); (case mk_Web => k_is); (case a_Web => k_is); (case i_Web => k_is); (case l_Web => k_is); (case c_Web => k_is); (case k_Web => k_is); (case kc_Web => k_is)
    intro I_Web
    refine' K47.thn (K47.hasD_mk (st := K47.s_web_of) (x := "web_of") (q := "web_of") (ps := ["rooms", "ties", "own"]) (kx := "own") (v := V.bl true) KX G 2 rfl (fun _ _ _ _ _ _ us ks hl hk => match us, hl, ks, hk with | [_, _], _, [_], _ => ⟨_, _, _, _, _, _, rfl, rfl, rfl⟩) ?a_web_of ?l_web_of ?c_web_of ?k_web_of ?e_web_of ?r_web_of) ?rest_web_of
    (case a_web_of => k_is); (case l_web_of => k_is); (case c_web_of => k_is); (case k_web_of => k_is); (case e_web_of => k_is); (case r_web_of => first | rfl | exact ⟨_, rfl⟩)
    intro F_web_of
    refine' K47.thn (K47.has_mk (st := K47.s__law_web_by) (x := "_law_web_by") (q := "_law_web_by") (ps := ["bag", "names", "ties"]) KX G (fun _ _ _ _ _ _ us hl => match us, hl with | [_, _, _], _ => rfl) ?a__law_web_by ?l__law_web_by ?c__law_web_by ?k__law_web_by) ?rest__law_web_by
    (case a__law_web_by => k_is); (case l__law_web_by => k_is); (case c__law_web_by => k_is); (case k__law_web_by => k_is)
    intro F__law_web_by
    refine' K47.law_end KX G hmg (fun F base => K47.law_of T F_is_run_character F_members F_teller_bits F_ties_in F_check_length F_ties_text F__law_bag F__law_draw F__law_closed F__law_tellers F__law_hearers F__law_sibs F__law_named F__law_pairs F__law_xtext F__law_joined F_is_name_nameforms F_is_lot F_web_text F_ordered_ties F__law_of F__law_mixed F__law_is_bare F__law_rings F__law_lots F_first_doubtful F_name_of F_lots_in F__law_fresh F__law_bares F__law_ties F__law_size F__law_bare_ties F_names_of F_is_name F_is_name_wordlooks F_lots_of F__law_web F_ties_of_words F_checked_rooms F__law_lots_told F_web_parts I_Web.1 I_Web.2.1 I_Web.2.2 F_web_of F__law_web_by F base) ?a ?l ?c ?k
    (case a => k_is); (case l => k_is); (case c => k_is); (case k => k_is)
#print axioms PySem.Challenge.cw_nofirst_k47_whole_lots_holds

