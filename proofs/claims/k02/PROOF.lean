import PyProof.Rows.All
import Wide.All
import OpenK.AllK
import Wide.FinOn
import HandS.ForMost
import HandS.Wide
import HandS.TupAny
import HandS.IsInst
import HandS.Flow
import KE.DataEq
import HandS.NoneIn
import PyProof.ReprLen
import PyProof.ReprRoads
import HandS.Conv
import HandS.SortInts
import HandS.Style
import HandS.Star
import HandS.Strs
import KE.DatumIndex
import KE.DatumOrd
import HandS.SetBool
import PySem.Challenge.RW_loggedalike_k02_whole_values_and_product
set_option Elab.async false
set_option linter.all false
set_option autoImplicit false
set_option maxRecDepth 100000
set_option maxHeartbeats 40000000
namespace DL
open PySem PySem.Spec PyProof.Rows L2

abbrev D := PyData
abbrev Fg := PySem.W.Frag

/-- between -b and b -/
def inB (b : Nat) : Int → Bool
  | .ofNat k => Nat.blt k b
  | .negSucc k => Nat.blt k b
theorem inB_iff {b : Nat} {n : Int} : inB b n = true ↔ -(b : Int) ≤ n ∧ n < b := by
  cases n with
  | ofNat k =>
    show Nat.blt k b = true ↔ _
    have : Nat.blt k b = true ↔ k < b := by rw [Nat.blt_eq]
    rw [this]
    show _ ↔ -(b : Int) ≤ (k : Int) ∧ (k : Int) < b
    omega
  | negSucc k =>
    show Nat.blt k b = true ↔ _
    have : Nat.blt k b = true ↔ k < b := by rw [Nat.blt_eq]
    rw [this]
    omega
theorem inB62 {n : Int} (h : inB 4611686018427387904 n = true) : -(2 ^ 62) ≤ n ∧ n < 2 ^ 62 := by
  have := inB_iff.mp h
  omega
theorem inB63 {n : Int} (h : inB 9223372036854775808 n = true) : -(2 ^ 63) ≤ n ∧ n < 2 ^ 63 := by
  have := inB_iff.mp h
  omega

theorem sqt_same {K : Fg} {G G' : Hp} {a : Addr} {xs : List V} (e : Same G G') (h : SqT K G a xs) : SqT K G' a xs := by
  rcases h with (h | ⟨o, h⟩) | h
  · exact Or.inl (Or.inl (e _ _ h))
  · exact Or.inl (Or.inr ⟨o, e _ _ h⟩)
  · exact Or.inr h

theorem rd_same {G G' : Hp} {a : Addr} {u : HO} (e : Same G G') (h : Rd G a u) : Rd G' a u := by
  rcases h with h | ⟨o, h⟩
  · exact Or.inl (e _ _ h)
  · exact Or.inr ⟨o, e _ _ h⟩

/-- a list that is read: tracked, locked, or a plain one of the module's -/
def SqX (K : Fg) (G : Hp) (a : Addr) (xs : List V) : Prop := Rd G a (.lst xs) ∨ ∃ (its : Array Value) (n : Nat), K.lookup a = some { cls := .type "list", data := .seq its n } ∧ its.size ≤ sizeLine ∧ Vals xs its.toList
theorem SqX.of {K : Fg} {G : Hp} {a : Addr} {xs : List V} (h : G a = some (.lst xs)) : SqX K G a xs := Or.inl (Or.inl h)
theorem SqX.seq {K : Fg} {G : Hp} {a : Addr} {xs : List V} (h : SqX K G a xs) : SqL K G a xs := by
  rcases h with h | ⟨its, n, h1, h2, h3⟩
  · exact Or.inl h
  · exact Or.inr ⟨_, its, n, h1, rfl, rfl, rfl, h2, h3⟩
theorem sqx_same {K : Fg} {G G' : Hp} {a : Addr} {xs : List V} (e : Same G G') (h : SqX K G a xs) : SqX K G' a xs := by
  rcases h with h | h
  · exact Or.inl (rd_same e h)
  · exact Or.inr h

/-- a step that lays new things: G is the quiet part of the heap H -/
structure Step (G H G' H' : Hp) : Prop where
  sg : Same G G'
  sh : Same H H'
  sub : Same G' H'
  quiet : ∀ b, H b ≠ none → G b = none → G' b = none

theorem Step.refl {G H : Hp} (s : Same G H) : Step G H G H := ⟨Same.refl _, Same.refl _, s, fun _ _ h => h⟩
theorem Step.trans {G H G1 H1 G2 H2 : Hp} (a : Step G H G1 H1) (b : Step G1 H1 G2 H2) : Step G H G2 H2 :=
  ⟨a.sg.trans b.sg, a.sh.trans b.sh, b.sub, fun c hc hn => b.quiet c (fun z => by
    cases q : H c with
    | none => exact hc q
    | some o => rw [a.sh c o q] at z; cases z) (a.quiet c hc hn)⟩
/-- one new object, quiet from the start -/
theorem Step.new {G H : Hp} (s : Same G H) {p : Addr} (hp : H p = none) (o : HO) : Step G H (upd G p o) (upd H p o) := by
  have gp : G p = none := s.free hp
  refine ⟨fun b u e => ?_, fun b u e => ?_, fun b u e => ?_, fun b hb hn => ?_⟩
  · rw [upd_ne (ne_of_none e gp)]; exact e
  · rw [upd_ne (ne_of_none e hp)]; exact e
  · by_cases h : b = p
    · subst h; rw [upd_same] at e ⊢; exact e
    · rw [upd_ne h] at e ⊢; exact s b u e
  · have h : b ≠ p := fun z => hb (by rw [z]; exact hp)
    rw [upd_ne h]; exact hn
/-- one new object that is nobody's yet -/
theorem Step.own {G H : Hp} (s : Same G H) {p : Addr} (hp : H p = none) (o : HO) : Step G H G (upd H p o) := by
  refine ⟨Same.refl _, fun b u e => ?_, fun b u e => ?_, fun b _ hn => hn⟩
  · rw [upd_ne (ne_of_none e hp)]; exact e
  · rw [upd_ne (ne_of_none e (s.free hp))]; exact s b u e

/-- a tuple whose object is known to have no dict of its own -/
def SqD (K : Fg) (G : Hp) (a : Addr) (xs : List V) : Prop := (∃ o, G a = some (.frz o (.tup xs)) ∧ o.dict = none) ∨
  ∃ (o : Obj) (its : Array Value) (n : Nat), K.lookup a = some o ∧ o.cls = .type "tuple" ∧ o.dict = none ∧ o.data = .seq its n ∧ its.size ≤ sizeLine ∧ Vals xs its.toList
theorem SqD.of {K : Fg} {G : Hp} {a : Addr} {xs : List V} {o : Obj} (h : G a = some (.frz o (.tup xs))) (d : o.dict = none) : SqD K G a xs := Or.inl ⟨o, h, d⟩
theorem SqD.sqt {K : Fg} {G : Hp} {a : Addr} {xs : List V} (h : SqD K G a xs) : SqT K G a xs := by
  rcases h with ⟨o, h, _⟩ | ⟨o, its, n, h1, h2, _, h3, h4, h5⟩
  · exact Or.inl (Or.inr ⟨o, h⟩)
  · exact Or.inr ⟨o, its, n, h1, h2, h3, h4, h5⟩
theorem sqd_same {K : Fg} {G G' : Hp} {a : Addr} {xs : List V} (e : Same G G') (h : SqD K G a xs) : SqD K G' a xs := by
  rcases h with ⟨o, h, d⟩ | h
  · exact Or.inl ⟨o, e _ _ h, d⟩
  · exact Or.inr h

def kD : Key → D
  | .inl i => .int i
  | .inr x => .str x
mutual
inductive Rep (K : Fg) (G : Hp) : V → D → Prop
  | non : Rep K G .non .none
  | bl (b : Bool) : Rep K G (.bl b) (.bool b)
  | int (i : Int) : Rep K G (.int i) (.int i)
  | str (x : Str) : Rep K G (.str x) (.str x)
  | lst {a : Addr} {xs : List V} {ds : List D} : SqX K G a xs → Reps K G xs ds → Rep K G (.ref a) (.list ds)
  | tup {a : Addr} {xs : List V} {ds : List D} : SqD K G a xs → Reps K G xs ds → Rep K G (.ref a) (.tuple ds)
  | dK {a : Addr} {kvs : List (Key × V)} {ds : List D} : G a = some (.dK kvs) → Reps K G (kvs.map (·.2)) ds → Rep K G (.ref a) (.dict ((kvs.map fun p => kD p.1).zip ds))
  | dT {a : Addr} {kvs : List (List Key × V)} {ds : List D} : G a = some (.dT kvs) → Reps K G (kvs.map (·.2)) ds → Rep K G (.ref a) (.dict ((kvs.map fun p => PyData.tuple (p.1.map kD)).zip ds))
inductive Reps (K : Fg) (G : Hp) : List V → List D → Prop
  | nil : Reps K G [] []
  | cons {v : V} {vs : List V} {d : D} {ds : List D} : Rep K G v d → Reps K G vs ds → Reps K G (v :: vs) (d :: ds)
end

section
variable {K : Fg} {G G' : Hp}
mutual
theorem Rep.mono (e : Same G G') : ∀ {v : V} {d : D}, Rep K G v d → Rep K G' v d
  | _, _, .non => .non
  | _, _, .bl b => .bl b
  | _, _, .int i => .int i
  | _, _, .str x => .str x
  | _, _, .lst h r => .lst (sqx_same e h) (Reps.mono e r)
  | _, _, .tup h r => .tup (sqd_same e h) (Reps.mono e r)
  | _, _, .dK h r => .dK (e _ _ h) (Reps.mono e r)
  | _, _, .dT h r => .dT (e _ _ h) (Reps.mono e r)
theorem Reps.mono (e : Same G G') : ∀ {vs : List V} {ds : List D}, Reps K G vs ds → Reps K G' vs ds
  | _, _, .nil => .nil
  | _, _, .cons a b => .cons (Rep.mono e a) (Reps.mono e b)
end
theorem Reps.length : ∀ {vs : List V} {ds : List D}, Reps K G vs ds → vs.length = ds.length
  | _, _, .nil => rfl
  | _, _, .cons _ b => by simp only [List.length_cons, Reps.length b]
theorem Reps.get : ∀ {vs : List V} {ds : List D} {i : Nat} {d : D}, Reps K G vs ds → ds[i]? = some d → ∃ v, vs[i]? = some v ∧ Rep K G v d
  | _, _, _, _, .nil, h => by simp at h
  | _, _, 0, _, .cons a _, h => by simp at h; subst h; exact ⟨_, rfl, a⟩
  | _, _, i + 1, _, .cons _ b, h => by simpa using Reps.get b (by simpa using h)
theorem Reps.get' : ∀ {vs : List V} {ds : List D} {i : Nat} {v : V}, Reps K G vs ds → vs[i]? = some v → ∃ d, ds[i]? = some d ∧ Rep K G v d
  | _, _, _, _, .nil, h => by simp at h
  | _, _, 0, _, .cons a _, h => by simp at h; subst h; exact ⟨_, rfl, a⟩
  | _, _, i + 1, _, .cons _ b, h => by simpa using Reps.get' b (by simpa using h)
theorem Reps.append : ∀ {vs ws : List V} {ds es : List D}, Reps K G vs ds → Reps K G ws es → Reps K G (vs ++ ws) (ds ++ es)
  | _, _, _, _, .nil, h => h
  | _, _, _, _, .cons a b, h => .cons a (Reps.append b h)
theorem Reps.set : ∀ {vs : List V} {ds : List D} {v : V} {d : D}, Reps K G vs ds → Rep K G v d → ∀ i, Reps K G (vs.set i v) (ds.set i d)
  | _, _, _, _, .nil, _, _ => .nil
  | _, _, _, _, .cons _ b, h, 0 => .cons h b
  | _, _, _, _, .cons a b, h, i + 1 => .cons a (Reps.set b h i)
theorem Reps.take : ∀ {vs : List V} {ds : List D} (n : Nat), Reps K G vs ds → Reps K G (vs.take n) (ds.take n)
  | _, _, 0, _ => .nil
  | _, _, _ + 1, .nil => .nil
  | _, _, n + 1, .cons a b => .cons a (Reps.take n b)
theorem Reps.drop : ∀ {vs : List V} {ds : List D} (n : Nat), Reps K G vs ds → Reps K G (vs.drop n) (ds.drop n)
  | _, _, 0, h => h
  | _, _, _ + 1, .nil => .nil
  | _, _, n + 1, .cons _ b => Reps.drop n b
theorem Reps.erase : ∀ {vs : List V} {ds : List D} (n : Nat), Reps K G vs ds → Reps K G (vs.eraseIdx n) (ds.eraseIdx n)
  | _, _, _, .nil => .nil
  | _, _, 0, .cons _ b => b
  | _, _, n + 1, .cons a b => .cons a (Reps.erase n b)
theorem Reps.dropLast {vs : List V} {ds : List D} (h : Reps K G vs ds) : Reps K G vs.dropLast ds.dropLast := by
  rw [List.dropLast_eq_take, List.dropLast_eq_take, h.length]; exact h.take _
theorem Reps.ints : ∀ (ns : List Int), Reps K G (ns.map V.int) (ns.map PyData.int)
  | [] => .nil
  | n :: r => .cons (.int n) (Reps.ints r)
theorem Rep.int_inv {v : V} {i : Int} (h : Rep K G v (.int i)) : v = .int i := by cases h; rfl
theorem Rep.str_inv {v : V} {x : Str} (h : Rep K G v (.str x)) : v = .str x := by cases h; rfl
theorem Rep.bl_inv {v : V} {b : Bool} (h : Rep K G v (.bool b)) : v = .bl b := by cases h; rfl
theorem Rep.non_inv {v : V} (h : Rep K G v .none) : v = .non := by cases h; rfl
theorem Rep.lst_rd {v : V} {ds : List D} (h : Rep K G v (.list ds)) : ∃ a xs, v = .ref a ∧ SqX K G a xs ∧ Reps K G xs ds := by
  cases h with | lst h r => exact ⟨_, _, rfl, h, r⟩
theorem Rep.lst_inv {v : V} {ds : List D} (h : Rep K G v (.list ds)) : ∃ a xs, v = .ref a ∧ SqL K G a xs ∧ Reps K G xs ds := by
  cases h with | lst h r => exact ⟨_, _, rfl, h.seq, r⟩
theorem Rep.tup_inv {v : V} {ds : List D} (h : Rep K G v (.tuple ds)) : ∃ a xs, v = .ref a ∧ SqT K G a xs ∧ Reps K G xs ds := by
  cases h with | tup h r => exact ⟨_, _, rfl, h.sqt, r⟩
theorem Rep.tup_d {v : V} {ds : List D} (h : Rep K G v (.tuple ds)) : ∃ a xs, v = .ref a ∧ SqD K G a xs ∧ Reps K G xs ds := by
  cases h with | tup h r => exact ⟨_, _, rfl, h, r⟩
theorem Reps.ints_inv : ∀ {vs : List V} {ns : List Int}, Reps K G vs (ns.map PyData.int) → vs = ns.map V.int
  | _, [], h => by cases h; rfl
  | _, n :: r, h => by
    cases h with
    | cons a b => rw [List.map_cons, a.int_inv, Reps.ints_inv b]
end

/-- a slot: nothing known, data, a box that is lent (by number), an own list -/
inductive Sl where
  | un | d (x : D) | bx (n : Nat) | ol (xs : List D)
def Sl.isOl : Sl → Bool
  | .ol _ => true
  | _ => false
abbrev Row := List Sl
abbrev Bxs := List (List D)

/-- the quiet part and the boxes -/
structure Wd (K : Fg) (δ : List Addr) (γ : Bxs) (G H : Hp) : Prop where
  sub : Same G H
  len : δ.length = γ.length
  nd : δ.Nodup
  out : ∀ a ∈ δ, G a = none
  cell : ∀ (n : Nat) (c : List D), γ[n]? = some c → ∃ a vs, δ[n]? = some a ∧ H a = some (.lst vs) ∧ Reps K G vs c

theorem Wd.live {K : Fg} {δ : List Addr} {γ : Bxs} {G H : Hp} (w : Wd K δ γ G H) {a : Addr} (h : a ∈ δ) : H a ≠ none := by
  obtain ⟨n, hn⟩ := List.getElem?_of_mem h
  have hl : n < γ.length := by
    have := (List.getElem?_eq_some_iff.mp hn).1
    rw [← w.len]; exact this
  obtain ⟨b, vs, h1, h2, _⟩ := w.cell n γ[n] (by simp [hl])
  rw [hn] at h1; cases h1
  rw [h2]; intro z; cases z
theorem Wd.step {K : Fg} {δ : List Addr} {γ : Bxs} {G H G' H' : Hp} (w : Wd K δ γ G H) (s : Step G H G' H') : Wd K δ γ G' H' := by
  refine ⟨s.sub, w.len, w.nd, fun a ha => s.quiet a (w.live ha) (w.out a ha), fun n c hc => ?_⟩
  obtain ⟨a, vs, h1, h2, h3⟩ := w.cell n c hc
  exact ⟨a, vs, h1, s.sh _ _ h2, h3.mono s.sg⟩

/-- the def's entry -/
structure Fm where
  G : Hp
  H : Hp

def SlOk (K : Fg) (δ : List Addr) (a : Addr) (G H : Hp) (o : Option (Option V)) : Sl → Prop
  | .un => True
  | .d x => ∃ v, o = some (some v) ∧ Rep K G v x
  | .bx n => ∃ b, δ[n]? = some b ∧ o = some (some (.ref b))
  | .ol xs => o = some (some (.ref a)) ∧ ∃ vs, H a = some (.lst vs) ∧ Reps K G vs xs

/-- the state: own i is the address of the own list in slot i -/
structure Rel (K : Fg) (δ : List Addr) (F : Fm) (own : Nat → Addr) (G H : Hp) (ρ : Row) (γ : Bxs) (σ : L2.St) : Prop where
  wd : Wd K δ γ G H
  g0 : Same F.G G
  q0 : ∀ b, F.H b ≠ none → F.G b = none → G b = none
  h0 : ∀ b o, F.H b = some o → F.G b = none → b ∉ δ → H b = some o
  len : ρ.length = σ.length
  slot : ∀ (i : Nat) (s : Sl), ρ[i]? = some s → SlOk K δ (own i) G H σ[i]? s
  ownd : ∀ (i : Nat) (xs : List D), ρ[i]? = some (.ol xs) → G (own i) = none ∧ own i ∉ δ ∧ F.H (own i) = none
  inj : ∀ (i j : Nat) (xs ys : List D), ρ[i]? = some (.ol xs) → ρ[j]? = some (.ol ys) → own i = own j → i = j

theorem SlOk.step {K : Fg} {δ : List Addr} {a : Addr} {G H G' H' : Hp} {o : Option (Option V)} (s : Step G H G' H') : ∀ {x : Sl}, SlOk K δ a G H o x → SlOk K δ a G' H' o x
  | .un, _ => trivial
  | .d _, ⟨v, h1, h2⟩ => ⟨v, h1, h2.mono s.sg⟩
  | .bx _, h => h
  | .ol _, ⟨h1, vs, h2, h3⟩ => ⟨h1, vs, s.sh _ _ h2, h3.mono s.sg⟩
theorem Rel.step {K : Fg} {δ : List Addr} {F : Fm} {own : Nat → Addr} {G H G' H' : Hp} {ρ : Row} {γ : Bxs} {σ : L2.St} (r : Rel K δ F own G H ρ γ σ) (s : Step G H G' H') : Rel K δ F own G' H' ρ γ σ := by
  refine ⟨r.wd.step s, r.g0.trans s.sg, fun b h1 h2 => ?_, fun b o h1 h2 h3 => s.sh _ _ (r.h0 b o h1 h2 h3), r.len, fun i x h => (r.slot i x h).step s, fun i xs h => ?_, r.inj⟩
  · by_cases hd : b ∈ δ
    · exact s.quiet b (r.wd.live hd) (r.wd.out b hd)
    · cases q : F.H b with
      | none => exact absurd q h1
      | some o => exact s.quiet b (by rw [r.h0 b o q h2 hd]; intro z; cases z) (r.q0 b h1 h2)
  · obtain ⟨h1, h2, h3⟩ := r.ownd i xs h
    obtain ⟨_, vs, h5, _⟩ := r.slot i _ h
    exact ⟨s.quiet _ (by rw [h5]; intro z; cases z) h1, h2, h3⟩
/-- less is known -/
theorem Rel.sub {K : Fg} {δ : List Addr} {F : Fm} {own : Nat → Addr} {G H : Hp} {ρ : Row} {γ : Bxs} {σ : L2.St} (r : Rel K δ F own G H ρ γ σ) : Same G H := r.wd.sub
end DL

namespace DL
open PySem PySem.Spec PyProof.Rows L2

/-- what a context must have: room, no repr under way, nothing handled -/
structure Okc (X : Cx) : Prop where
  hr : Room 1 X.A
  hg : X.A.guards = some []
  calm : X.calm = true
  nd : X.N.Nodup
  pas : PassesOwn (model X.prog X.w) X.A X.env X.xe

section
variable {X : Cx} {pins : List (Addr × Obj)} {σ : L2.St} {H G : Hp} {s : Shared}
theorem ints_keys : ∀ {kvs : List (Key × V)} {vs : List (Key × Value)}, KV kvs vs → kvs.map (·.1) = vs.map (·.1)
  | _, _, .nil => rfl
  | _, _, .cons r t => by rw [List.map_cons, List.map_cons, r.1, ints_keys t]
theorem mono_h {K : Fg} {v : V} {d : D} (e : Same G H) (h : Rep K G v d) : Rep K H v d := h.mono e

mutual
theorem Rep.reads (I : Inv X pins σ H s) (e : Same G H) : ∀ (d : D) (v : V) (u : Value), d.plain = true → Rep X.K G v d → RelV v u → ∃ as, Reads s.heap u d as
  | .none, v, u, _, h, r => by
    rw [h.non_inv] at r
    cases r
    exact ⟨_, .none⟩
  | .bool b, v, u, _, h, r => by
    rw [h.bl_inv] at r
    cases r
    exact ⟨_, .bool b⟩
  | .int i, v, u, _, h, r => by
    rw [h.int_inv] at r
    obtain ⟨t, rfl⟩ := r
    exact ⟨_, .int i t⟩
  | .str x, v, u, _, h, r => by
    rw [h.str_inv] at r
    obtain ⟨t, rfl⟩ := r
    exact ⟨_, .str x t⟩
  | .list ds, v, u, p, h, r => by
    obtain ⟨a, xs, rfl, hq, hs⟩ := h.lst_inv
    cases r
    obtain ⟨its, rv, pl, _⟩ := I.list (e.seq hq)
    obtain ⟨o, n, h1, h2, h3, h4⟩ := pl
    obtain ⟨as, q⟩ := Reps.reads I e ds xs its (by simpa only [PyData.plain] using p) hs rv
    exact ⟨_, .list h1 h2 h4 q⟩
  | .tuple ds, v, u, p, h, r => by
    obtain ⟨a, xs, rfl, hq, hs⟩ := h.tup_inv
    cases r
    obtain ⟨its, rv, pl, _⟩ := I.tuple (sqt_same e hq)
    obtain ⟨o, h1, h2, n, h4⟩ := pl
    obtain ⟨as, q⟩ := Reps.reads I e ds xs its (by simpa only [PyData.plain] using p) hs rv
    exact ⟨_, .tuple h1 h2 h4 q⟩
  | .dict kvs, _, _, p, _, _ => by simp [PyData.plain] at p
theorem Reps.reads (I : Inv X pins σ H s) (e : Same G H) : ∀ (ds : List D) (vs : List V) (us : List Value), PyData.plainAll ds = true → Reps X.K G vs ds → Vals vs us → ∃ as, ReadsAll s.heap us ds as
  | [], vs, us, _, h, r => by
    cases h
    cases r
    exact ⟨_, .nil⟩
  | d :: ds, vs, us, p, h, r => by
    cases h with
    | cons ha hb =>
      cases r with
      | cons ra rb =>
        simp only [PyData.plainAll, Bool.and_eq_true] at p
        obtain ⟨as, q1⟩ := Rep.reads I e d _ _ p.1 ha ra
        obtain ⟨bs, q2⟩ := Reps.reads I e ds _ _ p.2 hb rb
        exact ⟨_, .cons q1 q2⟩
end
end

/-- a two-place operation is g on data -/
def rD (K : Fg) (g : D → D → Option D) : R2 := fun x y H Q => ∃ G a b d, Same G H ∧ Rep K G x a ∧ Rep K G y b ∧ g a b = some d ∧ ∀ v G' H', Step G H G' H' → Rep K G' v d → Q v H'
/-- a one-place one -/
def r1D (K : Fg) (g : D → Option D) : V → Hp → VK → Prop := fun x H Q => ∃ G a d, Same G H ∧ Rep K G x a ∧ g a = some d ∧ ∀ v G' H', Step G H G' H' → Rep K G' v d → Q v H'
/-- one of many arguments -/
def rsD (K : Fg) (g : List D → Option D) : List V → Hp → VK → Prop := fun xs H Q => ∃ G as d, Same G H ∧ Reps K G xs as ∧ g as = some d ∧ ∀ v G' H', Step G H G' H' → Rep K G' v d → Q v H'
/-- a method -/
def rmD (K : Fg) (g : D → List D → Option D) : V → List V → Hp → VK → Prop := fun x xs H Q => ∃ G a as d, Same G H ∧ Rep K G x a ∧ Reps K G xs as ∧ g a as = some d ∧ ∀ v G' H', Step G H G' H' → Rep K G' v d → Q v H'

/-- S l: the text of these codes -/
abbrev S (l : List Nat) : Str := ⟨l.toArray⟩
theorem S_of (x : Str) : x = S x.cps.toList := by cases x; simp [S]

/-- a tuple newly laid -/
abbrev tupO (its : List Value) : Obj := { cls := .type "tuple", data := .seq its.toArray }
theorem lay_tup {X : Cx} {pins : List (Addr × Obj)} {σ : L2.St} {H : Hp} {s : Shared} {xs : List V} {us : List Value} {tk : Nat} {h' : Heap} (I : Inv X pins σ H s) (kp : ∀ b o, s.heap.get? b = some o → h'.get? b = some o) (big : s.heap.objs.size ≤ h'.objs.size) (r : Vals xs us) (z : xs.length ≤ sizeLine) :
    Inv X pins σ (upd H h'.objs.size (.frz (tupO us) (.tup xs))) { s with heap := h'.push (tupO us), toks := tk } :=
  I.laid (t' := tk) (fun b u e => Heap.get?_push_of_some _ (kp b u e)) big ⟨Heap.get?_push_size _ rfl, z, us, r, IsTup.new _ _⟩
def addD : D → D → Option D
  | .int i, .int j => some (.int (i + j))
  | .str x, .str y => if x.length + y.length ≤ sizeLine then some (.str (x ++ y)) else none
  | .list xs, .list ys => if xs.length + ys.length ≤ sizeLine then some (.list (xs ++ ys)) else none
  | .tuple xs, .tuple ys => if xs.length + ys.length ≤ sizeLine then some (.tuple (xs ++ ys)) else none
  | _, _ => none
def subD : D → D → Option D
  | .int i, .int j => some (.int (i - j))
  | _, _ => none
def repS (x : Str) (n : Nat) : Str := S (List.replicate n x.cps.toList).flatten
def mulD : D → D → Option D
  | .int i, .int j => if i.natAbs.log2 + j.natAbs.log2 < 1000000 then some (.int (i * j)) else none
  | .str x, .int k => if inB 9223372036854775808 k = true ∧ x.length * k.toNat ≤ sizeLine then some (.str (repS x k.toNat)) else none
  | .list xs, .int k => if inB 9223372036854775808 k = true ∧ xs.length * k.toNat ≤ sizeLine then some (.list (List.replicate k.toNat xs).flatten) else none
  | _, _ => none
def fdivD : D → D → Option D
  | .int i, .int j => if 0 < j ∧ j.natAbs.log2 < 9000 then some (.int (i / j)) else none
  | _, _ => none
def modD : D → D → Option D
  | .int i, .int j => if 0 < j then some (.int (i % j)) else none
  | _, _ => none
def powD : D → D → Option D
  | .int i, .int j => if 0 ≤ j ∧ j ≤ 1000000 ∧ i.natAbs < 2 ^ 64 then some (.int (i ^ j.toNat)) else none
  | _, _ => none
def negD : D → Option D
  | .int i => some (.int (-i))
  | _ => none
def cmpD (p : Int → Int → Bool) : D → D → Option D
  | .int i, .int j => some (.bool (p i j))
  | _, _ => none
def eqD (a b : D) : Option D := if a.plain ∧ b.plain ∧ a.depth ≤ 60 then some (.bool (PyData.eqv a b)) else none
def neD (a b : D) : Option D := if a.plain ∧ b.plain ∧ a.depth ≤ 60 then some (.bool (!PyData.eqv a b)) else none

section
variable {X : Cx}
theorem quiet_end {K : Fg} {G H : Hp} {Q : VK} {v : V} {d : D} (e : Same G H) (h : ∀ v G' H', Step G H G' H' → Rep K G' v d → Q v H') (r : Rep K G v d) : Q v H := h v G H (.refl e) r

theorem od_add : OpR X (binaryOp .Add) (rD X.K addD) := by
  intro pins s σ H x y v u Q I rx ry ⟨G, a, b, d, e, ra, rb, hd, h⟩
  cases a with
  | int i =>
    cases b with
    | int j =>
      cases ra.int_inv; cases rb.int_inv
      cases hd
      exact op_add pins s σ H _ _ v u Q I rx ry ⟨i, j, rfl, rfl, quiet_end e h (.int _)⟩
    | _ => simp [addD] at hd
  | str p =>
    cases b with
    | str q =>
      cases ra.str_inv; cases rb.str_inv
      simp only [addD] at hd
      split at hd
      · rename_i hz
        cases hd
        exact op_add_str pins s σ H _ _ v u Q I rx ry ⟨p, q, rfl, rfl, hz, quiet_end e h (.str _)⟩
      · cases hd
    | _ => simp [addD] at hd
  | list xs =>
    cases b with
    | list ys =>
      simp only [addD] at hd
      split at hd
      · rename_i hz
        cases hd
        obtain ⟨p, vs, rfl, hp, hvs⟩ := ra.lst_inv
        obtain ⟨q, ws, rfl, hq, hws⟩ := rb.lst_inv
        cases rx
        cases ry
        obtain ⟨its, r1, ⟨o1, n1, h1, c1, d1, e1⟩, z1⟩ := I.list (e.seq hp)
        obtain ⟨its2, r2, ⟨o2, n2, h2, c2, d2, e2⟩, z2⟩ := I.list (e.seq hq)
        obtain ⟨k1, l1, m1, s1⟩ := o1
        obtain ⟨k2, l2, m2, s2⟩ := o2
        simp only at c1 d1 e1 c2 d2 e2
        subst c1 d1 e1 c2 d2 e2
        have hzz : its.length + its2.length ≤ sizeLine := by
          rw [← r1.length, ← r2.length, hvs.length, hws.length]; exact hz
        refine concat_meets ⟨_, h1, rfl⟩ ⟨_, h2, rfl⟩ noFill_list_add seq_list_add PySem.F.slot_list_add PySem.F.entry_list_add (PySem.F.args_list_add_2 _ _) (list_addW p q its.toArray its2.toArray n1 n2 _ _ _ _ (by rw [List.size_toArray, List.size_toArray]; exact hzz)) ⟨h1, h2, ?_⟩
        have ea : its.toArray ++ its2.toArray = (its ++ its2).toArray := by simp
        rw [ea]
        have hzv : (vs ++ ws).length ≤ sizeLine := by rw [List.length_append, hvs.length, hws.length]; exact hz
        exact ⟨.ref _, _, I.lnew (t' := s.toks) (r1.append r2) hzv, rfl, h _ _ _ (Step.new e I.fresh _) (.lst (SqX.of upd_same) ((hvs.append hws).mono (Step.new e I.fresh (.lst (vs ++ ws))).sg))⟩
      · cases hd
    | _ => simp [addD] at hd
  | tuple xs =>
    cases b with
    | tuple ys =>
      simp only [addD] at hd
      split at hd
      · rename_i hz
        cases hd
        obtain ⟨p, vs, rfl, hp, hvs⟩ := ra.tup_d
        obtain ⟨q, ws, rfl, hq, hws⟩ := rb.tup_d
        have hz' : vs.length + ws.length ≤ sizeLine := by rw [hvs.length, hws.length]; exact hz
        cases rx
        cases ry
        obtain ⟨its, r1, p1, _⟩ := I.tuple (sqt_same e hp.sqt)
        obtain ⟨its2, r2, p2, _⟩ := I.tuple (sqt_same e hq.sqt)
        by_cases h0 : vs = []
        · subst h0
          cases r1
          cases hvs
          exact cat_tup0 p1 p2 ⟨.ref q, H, I, rfl, quiet_end e h (.tup hq hws)⟩
        · refine HT.cat_tup p1 p2 (fun z => h0 (r1.nil_iff.mp z)) (fun z => ?_) (fun z => ?_) (by rw [← r1.length, ← r2.length]; exact hz')
          · have h1 := r2.nil_iff.mp z
            subst h1
            cases hws
            rw [List.append_nil] at h
            exact ⟨.ref p, H, I, rfl, quiet_end e h (.tup hp hvs)⟩
          · have fr := I.hok.fresh (Nat.le_refl s.heap.objs.size)
            exact ⟨.ref s.heap.objs.size, _, lay_tup (tk := s.toks) I (fun _ _ z => z) (Nat.le_refl _) (r1.append r2) (by rw [List.length_append]; exact hz'), rfl, h _ _ _ (Step.new e fr _) (.tup (SqD.of upd_same rfl) ((hvs.append hws).mono (Step.new e fr (.frz (tupO (its ++ its2)) (.tup (vs ++ ws)))).sg))⟩
      · cases hd
    | _ => simp [addD] at hd
  | _ => cases b <;> simp [addD] at hd
end
end DL

namespace DL
open PySem PySem.Spec PyProof.Rows L2
section
variable {X : Cx}
theorem od_sub : OpR X (binaryOp .Sub) (rD X.K subD) := by
  intro pins s σ H x y v u Q I rx ry ⟨G, a, b, d, e, ra, rb, hd, h⟩
  cases a <;> cases b <;> simp only [subD, reduceCtorEq, Option.some.injEq] at hd
  cases hd; cases ra.int_inv; cases rb.int_inv
  exact op_sub pins s σ H _ _ v u Q I rx ry ⟨_, _, rfl, rfl, quiet_end e h (.int _)⟩
theorem od_fdiv : OpR X (binaryOp .FloorDiv) (rD X.K fdivD) := by
  intro pins s σ H x y v u Q I rx ry ⟨G, a, b, d, e, ra, rb, hd, h⟩
  cases a <;> cases b <;> simp only [fdivD, reduceCtorEq] at hd
  split at hd
  · rename_i hc
    cases hd; cases ra.int_inv; cases rb.int_inv
    exact op_fdivW pins s σ H _ _ v u Q I rx ry ⟨_, _, rfl, rfl, hc, quiet_end e h (.int _)⟩
  · cases hd
theorem od_mod : OpR X (binaryOp .Mod) (rD X.K modD) := by
  intro pins s σ H x y v u Q I rx ry ⟨G, a, b, d, e, ra, rb, hd, h⟩
  cases a <;> cases b <;> simp only [modD, reduceCtorEq] at hd
  split at hd
  · rename_i hc
    cases hd; cases ra.int_inv; cases rb.int_inv
    exact op_mod pins s σ H _ _ v u Q I rx ry ⟨_, _, rfl, rfl, hc, quiet_end e h (.int _)⟩
  · cases hd
theorem od_pow : OpR X (binaryOp .Pow) (rD X.K powD) := by
  intro pins s σ H x y v u Q I rx ry ⟨G, a, b, d, e, ra, rb, hd, h⟩
  cases a <;> cases b <;> simp only [powD, reduceCtorEq] at hd
  split at hd
  · rename_i hc
    cases hd; cases ra.int_inv; cases rb.int_inv
    exact op_pow pins s σ H _ _ v u Q I rx ry ⟨_, _, rfl, rfl, hc, quiet_end e h (.int _)⟩
  · cases hd
theorem Reps.rep {K : Fg} {G : Hp} {vs : List V} {ds : List D} (h : Reps K G vs ds) : ∀ k : Nat, Reps K G (List.replicate k vs).flatten (List.replicate k ds).flatten
  | 0 => .nil
  | k + 1 => by
    rw [List.replicate_succ, List.replicate_succ, List.flatten_cons, List.flatten_cons]
    exact h.append (Reps.rep h k)
/-- a list that is read, as it stands -/
theorem list_at {pins : List (Addr × Obj)} {σ : L2.St} {H : Hp} {s : Shared} {a : Addr} {xs : List V} (I : Inv X pins σ H s) (h : SqX X.K H a xs) : ∃ (its : List Value) (n : Nat), Vals xs its ∧ s.heap.get? a = some { cls := .type "list", data := .seq its.toArray n } ∧ xs.length ≤ sizeLine := by
  rcases h with h | ⟨its, n, h1, h2, h3⟩
  · obtain ⟨z, its, n, r, e⟩ := h.ok I.hok
    exact ⟨its, n, r, e, z⟩
  · refine ⟨its.toList, n, h3, I.kIn a _ h1, ?_⟩
    have z := h3.length
    simp only [Array.length_toList] at z
    exact z ▸ h2
theorem S_len (l : List Nat) : (S l).length = l.length := by simp [Str.length]
theorem rep_foldl (x : Str) : ∀ (k : Nat) (acc : Array Nat), ((List.replicate k x.cps).foldl (fun a b => a ++ b) acc).toList = acc.toList ++ (List.replicate k x.cps.toList).flatten
  | 0, acc => by simp
  | k + 1, acc => by
    rw [List.replicate_succ, List.foldl_cons, rep_foldl x k, List.replicate_succ, List.flatten_cons, Array.toList_append, List.append_assoc]
theorem rep_str (x : Str) (k : Nat) : (⟨(List.replicate k x.cps).foldl (fun a b => a ++ b) #[]⟩ : Str) = repS x k := by
  have h := rep_foldl x k #[]
  unfold repS S
  congr 1
  apply Array.ext'
  rw [h]
  simp
theorem repS_len (x : Str) (k : Nat) : (repS x k).length = x.length * k := by
  unfold repS
  rw [S_len, PyProof.Rows.lm_len_rep_flat, Nat.mul_comm]
  simp [Str.length, Nat.mul_comm]
theorem od_mul : OpR X (binaryOp .Mult) (rD X.K mulD) := by
  intro pins s σ H x y v u Q I rx ry ⟨G, a, b, d, e, ra, rb, hd, h⟩
  cases a with
  | int i =>
    cases b <;> simp only [mulD, reduceCtorEq] at hd
    split at hd
    · rename_i hc
      cases hd; cases ra.int_inv; cases rb.int_inv
      exact op_mulW pins s σ H _ _ v u Q I rx ry ⟨_, _, rfl, rfl, hc, quiet_end e h (.int _)⟩
    · cases hd
  | list xs =>
    cases b <;> simp only [mulD, reduceCtorEq] at hd
    rename_i k
    split at hd
    · rename_i hc
      cases hd; cases rb.int_inv
      obtain ⟨hB, hz⟩ := hc
      obtain ⟨h1, h2⟩ := inB63 hB
      obtain ⟨l, vs, rfl, hl, hvs⟩ := ra.lst_rd
      cases rx
      obtain ⟨t, rfl⟩ := ry
      obtain ⟨its, n, r, g, z⟩ := list_at I (sqx_same e hl)
      have hn : its.length = xs.length := by rw [← r.length, hvs.length]
      have hlen : its.toArray.size * k.toNat ≤ sizeLine := by rw [List.size_toArray, hn]; exact hz
      have hcap : ¬ its.toArray.size * k.toNat > (2 ^ 63 - 1) / 8 := by
        rw [sizeLine_eq] at hlen
        have : (16777216 : Nat) ≤ (2 ^ 63 - 1) / 8 := by decide
        omega
      have hfit : ¬ (!Builtin.List.listFitsIndex k) = true := by
        rw [fitsIndex_both h1 h2]; exact Bool.false_ne_true
      have hlong : ¬ Builtin.List.listTooLong (its.toArray.size * k.toNat) = true := by
        rw [notLongL hlen]; exact Bool.false_ne_true
      have hnew : List.foldl (fun x1 x2 => x1 ++ x2) #[] (List.replicate (if its.toArray.isEmpty = true then 0 else k.toNat) its.toArray) = (List.replicate k.toNat its).flatten.toArray := by
        have f0 : ∀ m : Nat, List.foldl (fun x1 x2 => x1 ++ x2) #[] (List.replicate m its.toArray) = (List.replicate m its).flatten.toArray := fun m => by
          have := foldl_rep its m []
          rw [List.nil_append] at this
          exact this
        rw [f0]
        cases its with
        | nil => simp
        | cons a r' => rw [if_neg (by simp)]
      have hzv : (List.replicate k.toNat vs).flatten.length ≤ sizeLine := by
        rw [PyProof.Rows.lm_len_rep_flat, hvs.length, Nat.mul_comm]; exact hz
      refine wpAny_binaryOp_repeat_ref (T := "list") (U := "int") (by decide) ⟨_, g, rfl⟩ (fun s' => typeIs_int s' k t) noFill_list_mul F.fills_int_mul F.slot_int_rmul repeat_list F.slot_int_index.lookup
        (call_meets F.slot_int_rmul (typeIs_int s k t) F.entry_int_rmul (F.args_int_rmul_2 _ _) (int___rmul___int_list k t l its.toArray n)
          ⟨g, rfl, ⟨_, g, rfl⟩, call_meets F.slot_list_mul ⟨_, g, rfl⟩ F.entry_list_mul (F.args_list_mul_2 _ _) (AutoListH.list___mul___list_int_3 l its.toArray n k t hfit hcap hlong) ⟨g, ?_⟩⟩)
      rw [hnew]
      exact ⟨.ref _, _, I.lnew (t' := s.toks) (r.rep k.toNat) hzv, rfl, h _ _ _ (Step.new e I.fresh _) (.lst (SqX.of upd_same) ((hvs.rep k.toNat).mono (Step.new e I.fresh (.lst (List.replicate k.toNat vs).flatten)).sg))⟩
    · cases hd
  | str p =>
    cases b <;> simp only [mulD, reduceCtorEq] at hd
    rename_i k
    split at hd
    · rename_i hc
      obtain ⟨hB, hz⟩ := hc
      obtain ⟨h1, h2⟩ := inB63 hB
      cases hd; cases ra.str_inv; cases rb.int_inv
      obtain ⟨t, rfl⟩ := rx
      obtain ⟨t', rfl⟩ := ry
      have hb1 : (decide (k < -(2 ^ 63 : Int)) || decide (k ≥ 2 ^ 63)) = false := by
        rw [decide_eq_false (by omega), decide_eq_false (by omega)]; rfl
      have e0 : p.length * k.toNat ≤ 16777216 := by rw [← sizeLine_eq]; exact hz
      have e1 : ((p.length * k.toNat : Nat) : Int) ≤ 16777216 := Int.ofNat_le.mpr e0
      rw [Int.natCast_mul] at e1
      refine PySem.P.mul_str hb1 (fun hn hk => ?_) (fun hn hk => ?_) ?_
      · intro hgt
        have hk0 : 0 < k := by omega
        have hx : (p.length : Int) * k ≤ 16777216 := by
          have : ((k.toNat : Nat) : Int) = k := by omega
          rw [this] at e1; exact e1
        have h3 : (p.length : Int) ≤ (2 ^ 63 - 1) / k := by
          rw [Int.le_ediv_iff_mul_le hk0]
          omega
        omega
      · exact decide_eq_false (Nat.not_lt.mpr hz)
      · by_cases hk : k < 1
        · rw [if_pos hk]
          have k0 : k.toNat = 0 := by omega
          have q := quiet_end e h (.str _)
          rw [k0] at q
          exact ⟨by decide, ⟨.str _, H, I.tok _, ⟨_, rfl⟩, q⟩⟩
        · rw [if_neg hk]
          by_cases hk2 : (k == 1 || p.length == 0) = true
          · rw [if_pos hk2]
            have er : repS p k.toNat = p := by
              rcases Bool.or_eq_true _ _ |>.mp hk2 with z | z
              · have : k = 1 := by simpa using z
                subst this
                unfold repS; rw [show (1 : Int).toNat = 1 from rfl]; simp [S]
              · have z0 : p.cps.toList = [] := by
                  have : p.cps.size = 0 := by simpa [Str.length] using z
                  apply List.eq_nil_of_length_eq_zero; simpa using this
                have ep : p = S [] := by rw [S_of p, z0]
                unfold repS; rw [z0, ep]
                simp [S]
            have q := quiet_end e h (.str _)
            rw [er] at q
            exact ⟨.str _, H, I, ⟨_, rfl⟩, q⟩
          · rw [if_neg hk2, rep_str]
            have q := quiet_end e h (.str _)
            refine ⟨?_, ⟨.str _, H, I.tok _, ⟨_, rfl⟩, q⟩⟩
            rw [repS_len]; exact hz
    · cases hd
  | _ => cases b <;> simp [mulD] at hd
end
end DL

namespace DL
open PySem PySem.Spec PyProof.Rows L2

def ltD : D → D → Option D
  | .int i, .int j => some (.bool (decide (i < j)))
  | .str x, .str y => some (.bool (decide (x.cps.toList < y.cps.toList)))
  | _, _ => none
def gtD : D → D → Option D
  | .int i, .int j => some (.bool (decide (j < i)))
  | .str x, .str y => some (.bool (decide (y.cps.toList < x.cps.toList)))
  | _, _ => none
def leD : D → D → Option D
  | .int i, .int j => some (.bool (decide (i ≤ j)))
  | _, _ => none
def geD : D → D → Option D
  | .int i, .int j => some (.bool (decide (j ≤ i)))
  | _, _ => none
/-- whether a value is among these -/
def hasD (xs : List D) (d : D) : Option D := if PyData.plainAll xs ∧ d.plain ∧ d.depth ≤ 60 then some (.bool (xs.any fun y => PyData.eqv y d)) else none
def inD : D → D → Option D
  | .str x, .str z => match x.cps.toList with
    | [c] => some (.bool (decide (c ∈ z.cps.toList)))
    | _ => none
  | d, .list xs => hasD xs d
  | d, .tuple xs => hasD xs d
  | _, _ => none
def notD : D → Option D
  | .bool b => some (.bool (!b))
  | _ => none
def notInD (a b : D) : Option D := (inD a b).bind notD
def isNone : D → Bool
  | .none => true
  | _ => false
def isNoneD (a : D) : Option D := some (.bool (isNone a))
def isNotNoneD (a : D) : Option D := some (.bool (!isNone a))
def lenD : List D → Option D
  | [.str x] => if x.length ≤ sizeLine then some (.int x.length) else none
  | [.list xs] => some (.int xs.length)
  | [.tuple xs] => some (.int xs.length)
  | _ => none
def absD : List D → Option D
  | [.int i] => some (.int (if i < 0 then -i else i))
  | _ => none
def max2D : List D → Option D
  | [.int i, .int j] => some (.int (if j > i then j else i))
  | _ => none
def min2D : List D → Option D
  | [.int i, .int j] => some (.int (if j < i then j else i))
  | _ => none
def intD : List D → Option D
  | [.int i] => some (.int i)
  | [.bool b] => some (.int (if b then 1 else 0))
  | _ => none
def ixD : D → D → Option D
  | .list xs, .int i => atI xs i
  | .tuple xs, .int i => atI xs i
  | .str z, .int i => if z.length ≤ sizeLine then (atI z.cps.toList i).map fun c => .str (S [c]) else none
  | _, _ => none
def cutD (xs : List D) (lo hi : Option Int) : List D := (xs.drop (HT.sIx xs.length 0 lo)).take (HT.sIx xs.length xs.length hi - HT.sIx xs.length 0 lo)
def slD : D → Option Int → Option Int → Option D
  | .list xs, lo, hi => some (.list (cutD xs lo hi))
  | .tuple xs, lo, hi => some (.tuple (cutD xs lo hi))
  | .str z, lo, hi => if z.length ≤ sizeLine then some (.str (cutS z lo hi)) else none
  | _, _, _ => none

section
variable {X : Cx}
theorem pair_inv {K : Fg} {G : Hp} {xs : List V} {a b : D} (h : Reps K G xs [a, b]) : ∃ x y, xs = [x, y] ∧ Rep K G x a ∧ Rep K G y b := by
  cases h with | cons h1 t => cases t with | cons h2 t => cases t; exact ⟨_, _, rfl, h1, h2⟩
theorem one_inv {K : Fg} {G : Hp} {xs : List V} {a : D} (h : Reps K G xs [a]) : ∃ x, xs = [x] ∧ Rep K G x a := by
  cases h with | cons h1 t => cases t; exact ⟨_, rfl, h1⟩
theorem od_lt : OpR X (compareOp .Lt) (rD X.K ltD) := by
  intro pins s σ H x y v u Q I rx ry ⟨G, a, b, d, e, ra, rb, hd, h⟩
  cases a <;> cases b <;> simp only [ltD, reduceCtorEq, Option.some.injEq] at hd
  · cases hd; cases ra.int_inv; cases rb.int_inv
    obtain ⟨t, rfl⟩ := rx
    obtain ⟨t', rfl⟩ := ry
    exact lt_int ⟨.bl _, H, I, rfl, quiet_end e h (.bl _)⟩
  · cases hd; cases ra.str_inv; cases rb.str_inv
    exact op_lt_str pins s σ H _ _ v u Q I rx ry ⟨_, _, rfl, rfl, quiet_end e h (.bl _)⟩
theorem od_gt : OpR X (compareOp .Gt) (rD X.K gtD) := by
  intro pins s σ H x y v u Q I rx ry ⟨G, a, b, d, e, ra, rb, hd, h⟩
  cases a <;> cases b <;> simp only [gtD, reduceCtorEq, Option.some.injEq] at hd
  · cases hd; cases ra.int_inv; cases rb.int_inv
    obtain ⟨t, rfl⟩ := rx
    obtain ⟨t', rfl⟩ := ry
    exact gt_int ⟨.bl _, H, I, rfl, quiet_end e h (.bl _)⟩
  · cases hd; cases ra.str_inv; cases rb.str_inv
    exact op_gt_str pins s σ H _ _ v u Q I rx ry ⟨_, _, rfl, rfl, quiet_end e h (.bl _)⟩
theorem od_le : OpR X (compareOp .LtE) (rD X.K leD) := by
  intro pins s σ H x y v u Q I rx ry ⟨G, a, b, d, e, ra, rb, hd, h⟩
  cases a <;> cases b <;> simp only [leD, reduceCtorEq, Option.some.injEq] at hd
  cases hd; cases ra.int_inv; cases rb.int_inv
  obtain ⟨t, rfl⟩ := rx
  obtain ⟨t', rfl⟩ := ry
  exact le_int ⟨.bl _, H, I, rfl, quiet_end e h (.bl _)⟩
theorem od_ge : OpR X (compareOp .GtE) (rD X.K geD) := by
  intro pins s σ H x y v u Q I rx ry ⟨G, a, b, d, e, ra, rb, hd, h⟩
  cases a <;> cases b <;> simp only [geD, reduceCtorEq, Option.some.injEq] at hd
  cases hd; cases ra.int_inv; cases rb.int_inv
  obtain ⟨t, rfl⟩ := rx
  obtain ⟨t', rfl⟩ := ry
  exact ge_int ⟨.bl _, H, I, rfl, quiet_end e h (.bl _)⟩
theorem units_dep {A : Around} {k m n : Nat} (hr : Room k A) (h : m ≤ 60) : A.units + 1 + min n m < cLine := by
  have h1 := hr.units
  have h2 := Nat.min_le_right n m
  omega
theorem units_dep' {A : Around} {k m n : Nat} (hr : Room k A) (h : m ≤ 60) : A.units + min m n < cLine := by
  have h1 := hr.units
  have h2 := Nat.min_le_left m n
  omega
theorem od_eq (O : Okc X) : OpR X (compareOp .Eq) (rD X.K eqD) := by
  intro pins s σ H x y v u Q I rx ry ⟨G, a, b, d, e, ra, rb, hd, h⟩
  unfold eqD at hd
  split at hd
  · rename_i hc
    cases hd
    obtain ⟨as, q1⟩ := Rep.reads I e a x v hc.1 ra rx
    obtain ⟨bs, q2⟩ := Rep.reads I e b y u hc.2.1 rb ry
    exact PySem.SeqAt.eq_plain q1 q2 hc.1 hc.2.1 (units_dep' O.hr hc.2.2) ⟨.bl _, H, I, rfl, quiet_end e h (.bl _)⟩
  · cases hd
theorem od_ne (O : Okc X) : OpR X (compareOp .NotEq) (rD X.K neD) := by
  intro pins s σ H x y v u Q I rx ry ⟨G, a, b, d, e, ra, rb, hd, h⟩
  unfold neD at hd
  split at hd
  · rename_i hc
    cases hd
    obtain ⟨as, q1⟩ := Rep.reads I e a x v hc.1 ra rx
    obtain ⟨bs, q2⟩ := Rep.reads I e b y u hc.2.1 rb ry
    exact PySem.SeqAt.ne_plain q1 q2 hc.1 hc.2.1 (units_dep' O.hr hc.2.2) ⟨.bl _, H, I, rfl, quiet_end e h (.bl _)⟩
  · cases hd
theorem sign_of {x : Str} {c : Nat} (h : x.cps.toList = [c]) : x = ⟨#[c]⟩ := by
  rw [S_of x, h]
theorem od_in (O : Okc X) : OpR X (compareOp .In) (rD X.K inD) := by
  intro pins s σ H x y v u Q I rx ry ⟨G, a, b, d, e, ra, rb, hd, h⟩
  cases b with
  | str z =>
    cases a <;> simp only [inD, reduceCtorEq] at hd
    split at hd
    · rename_i c hc
      cases hd; cases ra.str_inv; cases rb.str_inv
      cases sign_of hc
      exact op_in_sign pins s σ H _ _ v u Q I rx ry ⟨c, z, rfl, rfl, quiet_end e h (.bl _)⟩
    · cases hd
  | list xs =>
    have hd : hasD xs a = some d := by cases a <;> exact hd
    unfold hasD at hd
    split at hd
    · rename_i hc
      cases hd
      obtain ⟨as, q1⟩ := Rep.reads I e a x v hc.2.1 ra rx
      obtain ⟨bs, q2⟩ := Rep.reads I e (.list xs) y u (by simpa only [PyData.plain] using hc.1) rb ry
      exact PySem.SeqAt.in_list_data q2 q1 hc.1 hc.2.1 (units_dep O.hr hc.2.2) ⟨.bl _, H, I, rfl, quiet_end e h (.bl _)⟩
    · cases hd
  | tuple xs =>
    have hd : hasD xs a = some d := by cases a <;> exact hd
    unfold hasD at hd
    split at hd
    · rename_i hc
      cases hd
      obtain ⟨as, q1⟩ := Rep.reads I e a x v hc.2.1 ra rx
      obtain ⟨bs, q2⟩ := Rep.reads I e (.tuple xs) y u (by simpa only [PyData.plain] using hc.1) rb ry
      exact PySem.SeqAt.in_tuple_data q2 q1 hc.1 hc.2.1 (units_dep O.hr hc.2.2) ⟨.bl _, H, I, rfl, quiet_end e h (.bl _)⟩
    · cases hd
  | _ => cases a <;> simp [inD] at hd
theorem od_notin (O : Okc X) : OpR X (compareOp .NotIn) (rD X.K notInD) := by
  intro pins s σ H x y v u Q I rx ry ⟨G, a, b, d, e, ra, rb, hd, h⟩
  unfold notInD at hd
  cases b with
  | str z =>
    cases a <;> simp only [inD, reduceCtorEq, Option.bind_none] at hd
    split at hd
    · rename_i c hc
      cases hd; cases ra.str_inv; cases rb.str_inv
      cases sign_of hc
      exact op_notIn_sign pins s σ H _ _ v u Q I rx ry ⟨c, z, rfl, rfl, quiet_end e h (.bl _)⟩
    · cases hd
  | list xs =>
    have hd : (hasD xs a).bind notD = some d := by cases a <;> exact hd
    unfold hasD at hd
    split at hd
    · rename_i hc
      cases hd
      obtain ⟨as, q1⟩ := Rep.reads I e a x v hc.2.1 ra rx
      obtain ⟨bs, q2⟩ := Rep.reads I e (.list xs) y u (by simpa only [PyData.plain] using hc.1) rb ry
      exact PySem.SeqAt.notIn_list_data q2 q1 hc.1 hc.2.1 (units_dep O.hr hc.2.2) ⟨.bl _, H, I, rfl, quiet_end e h (.bl _)⟩
    · cases hd
  | tuple xs =>
    have hd : (hasD xs a).bind notD = some d := by cases a <;> exact hd
    unfold hasD at hd
    split at hd
    · rename_i hc
      cases hd
      obtain ⟨as, q1⟩ := Rep.reads I e a x v hc.2.1 ra rx
      obtain ⟨bs, q2⟩ := Rep.reads I e (.tuple xs) y u (by simpa only [PyData.plain] using hc.1) rb ry
      exact PySem.SeqAt.notIn_tuple_data q2 q1 hc.1 hc.2.1 (units_dep O.hr hc.2.2) ⟨.bl _, H, I, rfl, quiet_end e h (.bl _)⟩
    · cases hd
  | _ => cases a <;> simp [inD] at hd
theorem cd_len : CallR X (.builtin "len") (rsD X.K lenD) := by
  intro pins s σ H xs us Q I r ⟨G, as, d, e, ra, hd, h⟩
  match as, hd with
  | [.str x], hd =>
    obtain ⟨w, rfl, r1⟩ := one_inv ra
    cases r1.str_inv
    simp only [lenD] at hd
    split at hd
    · rename_i hz
      cases hd
      exact call_len pins s σ H _ us Q I r ⟨_, _, rfl, ⟨hz, rfl⟩, quiet_end e h (.int _)⟩
    · cases hd
  | [.list ys], hd =>
    obtain ⟨w, rfl, r1⟩ := one_inv ra
    obtain ⟨a, vs, rfl, hq, hs⟩ := r1.lst_inv
    cases hd
    exact call_len pins s σ H _ us Q I r ⟨_, _, rfl, Or.inl ⟨vs, e.seq hq, hs.length.symm⟩, quiet_end e h (.int _)⟩
  | [.tuple ys], hd =>
    obtain ⟨w, rfl, r1⟩ := one_inv ra
    obtain ⟨a, vs, rfl, hq, hs⟩ := r1.tup_inv
    cases hd
    exact call_len pins s σ H _ us Q I r ⟨_, _, rfl, Or.inr ⟨vs, sqt_same e hq, hs.length.symm⟩, quiet_end e h (.int _)⟩
theorem cd_abs : CallR X (.builtin "abs") (rsD X.K absD) := by
  intro pins s σ H xs us Q I r ⟨G, as, d, e, ra, hd, h⟩
  match as, hd with
  | [.int i], hd =>
    obtain ⟨w, rfl, r1⟩ := one_inv ra
    cases r1.int_inv
    cases hd
    exact call_abs pins s σ H _ us Q I r ⟨_, rfl, quiet_end e h (.int _)⟩
theorem cd_int : CallR X (.type "int") (rsD X.K intD) := by
  intro pins s σ H xs us Q I r ⟨G, as, d, e, ra, hd, h⟩
  match as, hd with
  | [.int i], hd =>
    obtain ⟨w, rfl, r1⟩ := one_inv ra
    cases r1.int_inv
    cases hd
    exact call_int1 pins s σ H _ us Q I r (Or.inl ⟨_, rfl, quiet_end e h (.int _)⟩)
  | [.bool i], hd =>
    obtain ⟨w, rfl, r1⟩ := one_inv ra
    cases r1.bl_inv
    cases hd
    exact call_int1 pins s σ H _ us Q I r (Or.inr ⟨_, rfl, quiet_end e h (.int _)⟩)
theorem cd_max2 (O : Okc X) : CallR X (.builtin "max") (rsD X.K max2D) := by
  intro pins s σ H xs us Q I r ⟨G, as, d, e, ra, hd, h⟩
  match as, hd with
  | [.int i, .int j], hd =>
    obtain ⟨w, z, rfl, r1, r2⟩ := pair_inv ra
    cases r1.int_inv; cases r2.int_inv
    cases hd
    exact call_max2 O.calm pins s σ H _ us Q I r ⟨_, _, rfl, quiet_end e h (.int _)⟩
theorem cd_min2 (O : Okc X) : CallR X (.builtin "min") (rsD X.K min2D) := by
  intro pins s σ H xs us Q I r ⟨G, as, d, e, ra, hd, h⟩
  match as, hd with
  | [.int i, .int j], hd =>
    obtain ⟨w, z, rfl, r1, r2⟩ := pair_inv ra
    cases r1.int_inv; cases r2.int_inv
    cases hd
    exact call_min2 O.calm pins s σ H _ us Q I r ⟨_, _, rfl, quiet_end e h (.int _)⟩
theorem atI_of {K : Fg} {G : Hp} {vs : List V} {xs : List D} {i : Int} {d : D} (h : Reps K G vs xs) (e : atI xs i = some d) : ∃ v, atI vs i = some v ∧ Rep K G v d := by
  unfold atI at e ⊢
  rw [h.length]
  cases q : ixN xs.length i with
  | none => rw [q] at e; cases e
  | some j => rw [q] at e; exact h.get e
theorem id_ix : IxR X (rD X.K ixD) := by
  intro ve se pins s σ H x y v u Q I rx ry ⟨G, a, b, d, e, ra, rb, hd, h⟩ hsub
  cases a with
  | list xs =>
    cases b <;> simp only [ixD, reduceCtorEq] at hd
    cases rb.int_inv
    obtain ⟨l, vs, rfl, hq, hs⟩ := ra.lst_inv
    obtain ⟨w, hw, rw'⟩ := atI_of hs hd
    exact ix_list ve se pins s σ H _ _ v u Q I rx ry ⟨_, _, _, _, rfl, rfl, e.seq hq, hw, quiet_end e h rw'⟩ hsub
  | tuple xs =>
    cases b <;> simp only [ixD, reduceCtorEq] at hd
    cases rb.int_inv
    obtain ⟨l, vs, rfl, hq, hs⟩ := ra.tup_inv
    obtain ⟨w, hw, rw'⟩ := atI_of hs hd
    exact ix_tup ve se pins s σ H _ _ v u Q I rx ry ⟨_, _, _, _, rfl, rfl, sqt_same e hq, hw, quiet_end e h rw'⟩ hsub
  | str z =>
    cases b <;> simp only [ixD, reduceCtorEq] at hd
    split at hd
    · rename_i hz
      cases rb.int_inv; cases ra.str_inv
      obtain ⟨c, hc, rfl⟩ := Option.map_eq_some_iff.mp hd
      exact ix_str ve se pins s σ H _ _ v u Q I rx ry ⟨_, _, c, rfl, rfl, hz, hc, quiet_end e h (.str _)⟩ hsub
    · cases hd
  | _ => cases b <;> simp [ixD] at hd
theorem Reps.cut {K : Fg} {G : Hp} {vs : List V} {xs : List D} (h : Reps K G vs xs) (lo hi : Option Int) : Reps K G (cutV vs lo hi) (cutD xs lo hi) := by
  unfold cutV cutD
  rw [h.length]
  exact (h.drop _).take _
/-- a slice is slD on data -/
def rslD (K : Fg) : V → Option Int → Option Int → Hp → VK → Prop := fun x lo hi H Q => ∃ G a d, Same G H ∧ Rep K G x a ∧ slD a lo hi = some d ∧ ∀ v G' H', Step G H G' H' → Rep K G' v d → Q v H'
theorem sd_sl : SlR X (rslD X.K) := by
  intro pins s σ H x v vl vu lo hi sl Q I rx hs pl pu ⟨G, a, d, e, ra, hd, h⟩
  cases a with
  | list xs =>
    cases hd
    obtain ⟨l, vs, rfl, hq, hvs⟩ := ra.lst_inv
    refine sl_list pins s σ H _ v vl vu lo hi sl Q I rx hs pl pu ⟨_, _, rfl, e.seq hq, fun p hp => ?_⟩
    exact h _ _ _ (Step.new e hp _) (.lst (SqX.of upd_same) ((hvs.cut lo hi).mono (Step.new e hp (.lst (cutV vs lo hi))).sg))
  | tuple xs =>
    cases hd
    obtain ⟨l, vs, rfl, hq, hvs⟩ := ra.tup_d
    cases rx
    obtain ⟨its, r, ht, hz⟩ := I.tuple (sqt_same e hq.sqt)
    have hlen : its.toArray.size = vs.length := by rw [List.size_toArray]; exact r.length.symm
    refine ⟨"tuple", _, PyProof.Rows.slot_tuple_getitem.lookup, ht.typeIs, ?_⟩
    by_cases hw : HT.sIx vs.length 0 lo = 0 ∧ HT.sIx vs.length vs.length hi = vs.length
    · have ec : cutD xs lo hi = xs := by
        unfold cutD
        rw [← hvs.length, hw.1, hw.2, hvs.length]
        simp
      rw [ec] at h
      exact getItem_tuple_whole ht hs pl pu (by rw [hlen]; exact hw) ⟨.ref l, H, I, rfl, quiet_end e h (.tup hq hvs)⟩
    · refine HT.getItem_tuple_cut ht hs pl pu (by rw [hlen]; exact hw) ?_ (by rw [hlen]; exact hz)
      rw [hlen]
      have fr := I.hok.fresh (Nat.le_refl s.heap.objs.size)
      exact ⟨.ref s.heap.objs.size, _, lay_tup (tk := s.toks) I (fun _ _ z => z) (Nat.le_refl _) ((r.drop (HT.sIx vs.length 0 lo)).take (HT.sIx vs.length vs.length hi - HT.sIx vs.length 0 lo)) (Nat.le_trans (cutV_length vs lo hi) hz), rfl,
        h _ _ _ (Step.new e fr _) (.tup (SqD.of upd_same rfl) ((hvs.cut lo hi).mono (Step.new e fr (.frz (tupO _) (.tup (cutV vs lo hi)))).sg))⟩
  | str z =>
    simp only [slD] at hd
    split at hd
    · rename_i hz
      cases hd; cases ra.str_inv
      exact sl_str pins s σ H _ v vl vu lo hi sl Q I rx hs pl pu ⟨_, rfl, hz, quiet_end e h (.str _)⟩
    · cases hd
  | _ => simp [slD] at hd
end
end DL

namespace DL
open PySem PySem.Spec PyProof.Rows L2

/-- what an expression computes: its data, the slots and boxes behind it -/
abbrev Fx := Row → Bxs → Option (D × Row × Bxs)
abbrev Ft := Row → Bxs → Option (Bool × Row × Bxs)
abbrev Fs := Row → Bxs → Option (List D × Row × Bxs)

/-- e computes f -/
def DE (X : Cx) (e : Expr) (f : Fx) : Prop := ∃ t, PE X e t ∧ ∀ (δ : List Addr) (F : Fm) (own : Nat → Addr) (G H : Hp) (ρ : Row) (γ : Bxs) (σ : L2.St) (d : D) (ρ' : Row) (γ' : Bxs) (Q : VK),
  Rel X.K δ F own G H ρ γ σ → f ρ γ = some (d, ρ', γ') → (∀ v G' H', Rel X.K δ F own G' H' ρ' γ' σ → Same G G' → Rep X.K G' v d → Q v H') → t σ H Q
/-- e, as a test, computes f -/
def DT (X : Cx) (e : Expr) (f : Ft) : Prop := ∃ t, PT X e t ∧ ∀ (δ : List Addr) (F : Fm) (own : Nat → Addr) (G H : Hp) (ρ : Row) (γ : Bxs) (σ : L2.St) (d : Bool) (ρ' : Row) (γ' : Bxs) (Q : Bool → Hp → Prop),
  Rel X.K δ F own G H ρ γ σ → f ρ γ = some (d, ρ', γ') → (∀ G' H', Rel X.K δ F own G' H' ρ' γ' σ → Same G G' → Q d H') → t σ H Q
def DW (X : Cx) (e : Expr) (f : Ft) : Prop := ∃ t, PW X e t ∧ ∀ (δ : List Addr) (F : Fm) (own : Nat → Addr) (G H : Hp) (ρ : Row) (γ : Bxs) (σ : L2.St) (d : Bool) (ρ' : Row) (γ' : Bxs) (Q : Bool → Hp → Prop),
  Rel X.K δ F own G H ρ γ σ → f ρ γ = some (d, ρ', γ') → (∀ G' H', Rel X.K δ F own G' H' ρ' γ' σ → Same G G' → Q d H') → t σ H Q
/-- some expressions in a row -/
def DA (X : Cx) (es : List Expr) (f : Fs) : Prop := ∃ t, PA X es t ∧ ∀ (δ : List Addr) (F : Fm) (own : Nat → Addr) (G H : Hp) (ρ : Row) (γ : Bxs) (σ : L2.St) (ds : List D) (ρ' : Row) (γ' : Bxs) (Q : List V → Hp → Prop),
  Rel X.K δ F own G H ρ γ σ → f ρ γ = some (ds, ρ', γ') → (∀ vs G' H', Rel X.K δ F own G' H' ρ' γ' σ → Same G G' → Reps X.K G' vs ds → Q vs H') → t σ H Q

def fC (d : D) : Fx := fun ρ γ => some (d, ρ, γ)
def fV (i : Nat) : Fx := fun ρ γ => match ρ[i]? with
  | some (.d x) => some (x, ρ, γ)
  | _ => none
def f1 (g : D → Option D) (fa : Fx) : Fx := fun ρ γ => (fa ρ γ).bind fun p => (g p.1).map fun z => (z, p.2)
def f2 (g : D → D → Option D) (fa fb : Fx) : Fx := fun ρ γ => (fa ρ γ).bind fun p => (fb p.2.1 p.2.2).bind fun q => (g p.1 q.1).map fun z => (z, q.2)
def fS (g : List D → Option D) (fa : Fs) : Fx := fun ρ γ => (fa ρ γ).bind fun p => (g p.1).map fun z => (z, p.2)
def fNil : Fs := fun ρ γ => some ([], ρ, γ)
def fCons (fa : Fx) (fr : Fs) : Fs := fun ρ γ => (fa ρ γ).bind fun p => (fr p.2.1 p.2.2).map fun q => (p.1 :: q.1, q.2)
def fIf (c : Ft) (fa fb : Fx) : Fx := fun ρ γ => (c ρ γ).bind fun p => if p.1 = true then fa p.2.1 p.2.2 else fb p.2.1 p.2.2
/-- truth -/
def truD : D → Option Bool
  | .none => some false
  | .bool b => some b
  | .int i => some (i != 0)
  | .str x => if x.length ≤ sizeLine then some (x.length != 0) else none
  | .list xs => some (!xs.isEmpty)
  | .tuple xs => some (!xs.isEmpty)
  | .dict _ => none
def fTru (fa : Fx) : Ft := fun ρ γ => (fa ρ γ).bind fun p => (truD p.1).map fun z => (z, p.2)
def fBl (fa : Fx) : Ft := fun ρ γ => (fa ρ γ).bind fun p => match p.1 with
  | .bool b => some (b, p.2)
  | _ => none
def fAndT (fa fb : Ft) : Ft := fun ρ γ => (fa ρ γ).bind fun p => if p.1 = true then fb p.2.1 p.2.2 else some (false, p.2)
def fOrT (fa fb : Ft) : Ft := fun ρ γ => (fa ρ γ).bind fun p => if p.1 = true then some (true, p.2) else fb p.2.1 p.2.2
def fNotT (fa : Ft) : Ft := fun ρ γ => (fa ρ γ).map fun p => (!p.1, p.2)
/-- a and b, a or b as values, a a bool -/
def fAnd (fa fb : Fx) : Fx := fun ρ γ => (fa ρ γ).bind fun p => match p.1 with
  | .bool true => fb p.2.1 p.2.2
  | .bool false => some (.bool false, p.2)
  | _ => none
def fOr (fa fb : Fx) : Fx := fun ρ γ => (fa ρ γ).bind fun p => match p.1 with
  | .bool false => fb p.2.1 p.2.2
  | .bool true => some (.bool true, p.2)
  | _ => none
def fNot (fa : Fx) : Fx := f1 notD fa
def fTup (fa : Fs) : Fx := fS (fun ds => if ds.length ≤ sizeLine then some (.tuple ds) else none) fa
def fLst (fa : Fs) : Fx := fS (fun ds => if ds.length ≤ sizeLine then some (.list ds) else none) fa
/-- parts of a slice -/
abbrev Fo := Row → Bxs → Option (Option Int × Row × Bxs)
def fNo : Fo := fun ρ γ => some (none, ρ, γ)
def fPt (fa : Fx) : Fo := fun ρ γ => (fa ρ γ).bind fun p => match p.1 with
  | .int i => some (some i, p.2)
  | _ => none
def fSl (fa : Fx) (fl fh : Fo) : Fx := fun ρ γ => (fa ρ γ).bind fun p => (fl p.2.1 p.2.2).bind fun q => (fh q.2.1 q.2.2).bind fun r => (slD p.1 q.1 r.1).map fun z => (z, r.2)

section
variable {X : Cx} {e a b c : Expr} {es : List Expr} {fa fb fc : Fx} {ft fu : Ft} {fs : Fs} {pos p : Pos}
theorem bind_some {α β : Type} {o : Option α} {f : α → Option β} {z : β} (h : o.bind f = some z) : ∃ y, o = some y ∧ f y = some z := Option.bind_eq_some_iff.mp h
theorem map_some {α β : Type} {o : Option α} {f : α → β} {z : β} (h : o.map f = some z) : ∃ y, o = some y ∧ f y = z := Option.map_eq_some_iff.mp h

theorem de_const {v : V} {d : D} (h : PE X e (tC v)) (r : ∀ G : Hp, Rep X.K G v d) : DE X e (fC d) :=
  ⟨_, h, fun δ F own G H ρ γ σ d' ρ' γ' Q R e k => by cases e; exact k _ G H R (Same.refl _) (r G)⟩
theorem de_int {i : Int} {j : Nat} : DE X (.Constant (.int i) j pos) (fC (.int i)) := de_const pe_int fun _ => .int _
theorem de_bl {i : Bool} {j : Nat} : DE X (.Constant (.bool i) j pos) (fC (.bool i)) := de_const pe_bl fun _ => .bl _
theorem de_str {i : Str} {j : Nat} : DE X (.Constant (.str i) j pos) (fC (.str i)) := de_const pe_str fun _ => .str _
theorem de_non {j : Nat} : DE X (.Constant .none j pos) (fC .none) := de_const pe_non fun _ => .non
theorem de_var {i : Nat} {x : Str} (h : PE X (.Name x pos) (tVar i)) : DE X (.Name x pos) (fV i) := by
  refine ⟨_, h, fun δ F own G H ρ γ σ d ρ' γ' Q R e k => ?_⟩
  unfold fV at e
  split at e
  · rename_i y hy
    cases e
    obtain ⟨v, hv, r⟩ := R.slot i _ hy
    exact ⟨v, hv, k v G H R (Same.refl _) r⟩
  · cases e
theorem de_bin {op : Operator} {g : D → D → Option D} (ho : OpR X (binaryOp op) (rD X.K g)) (ha : DE X a fa) (hb : DE X b fb) : DE X (.BinOp a op b pos) (f2 g fa fb) := by
  obtain ⟨ta, pa, qa⟩ := ha
  obtain ⟨tb, pb, qb⟩ := hb
  refine ⟨_, pe_op ho pa pb, fun δ F own G H ρ γ σ d ρ' γ' Q R e k => ?_⟩
  obtain ⟨⟨x, ρ1, γ1⟩, e1, e⟩ := bind_some e
  obtain ⟨⟨y, ρ2, γ2⟩, e2, e⟩ := bind_some e
  obtain ⟨z, e3, e⟩ := map_some e
  cases e
  refine qa δ F own G H ρ γ σ x _ _ _ R e1 fun v G1 H1 R1 s1 r1 => qb δ F own G1 H1 _ _ σ y _ _ _ R1 e2 fun u G2 H2 R2 s2 r2 => ?_
  exact ⟨G2, x, y, d, R2.sub, r1.mono s2, r2, e3, fun w G' H' st r => k w G' H' (R2.step st) ((s1.trans s2).trans st.sg) r⟩
theorem de_cmp {op : CmpOp} {g : D → D → Option D} (ho : OpR X (compareOp op) (rD X.K g)) (ha : DE X a fa) (hb : DE X b fb) (hm : behindInMarks op b = false := by first | exact nobehind _ (by decide) (by decide) | rfl) : DE X (.Compare a [op] [b] pos) (f2 g fa fb) := by
  obtain ⟨ta, pa, qa⟩ := ha
  obtain ⟨tb, pb, qb⟩ := hb
  refine ⟨_, pe_cmpR ho pa pb hm, fun δ F own G H ρ γ σ d ρ' γ' Q R e k => ?_⟩
  obtain ⟨⟨x, ρ1, γ1⟩, e1, e⟩ := bind_some e
  obtain ⟨⟨y, ρ2, γ2⟩, e2, e⟩ := bind_some e
  obtain ⟨z, e3, e⟩ := map_some e
  cases e
  refine qa δ F own G H ρ γ σ x _ _ _ R e1 fun v G1 H1 R1 s1 r1 => qb δ F own G1 H1 _ _ σ y _ _ _ R1 e2 fun u G2 H2 R2 s2 r2 => ?_
  exact ⟨G2, x, y, d, R2.sub, r1.mono s2, r2, e3, fun w G' H' st r => k w G' H' (R2.step st) ((s1.trans s2).trans st.sg) r⟩
theorem de_isN {j : Nat} {p' : Pos} (ha : DE X a fa) : DE X (.Compare a [.Is] [.Constant .none j p'] pos) (f1 isNoneD fa) := by
  obtain ⟨ta, pa, qa⟩ := ha
  refine ⟨_, pe_cmp (pc_isN pa) rfl, fun δ F own G H ρ γ σ d ρ' γ' Q R e k => ?_⟩
  obtain ⟨⟨x, ρ1, γ1⟩, e1, e⟩ := bind_some e
  obtain ⟨z, e3, e⟩ := map_some e
  cases e
  refine qa δ F own G H ρ γ σ x _ _ _ R e1 fun v G1 H1 R1 s1 r1 => k _ G1 H1 R1 s1 ?_
  cases e3
  have : decide (v = V.non) = isNone x := by cases r1 <;> simp [isNone]
  rw [this]
  exact .bl _
theorem de_notN {j : Nat} {p' : Pos} (ha : DE X a fa) : DE X (.Compare a [.IsNot] [.Constant .none j p'] pos) (f1 isNotNoneD fa) := by
  obtain ⟨ta, pa, qa⟩ := ha
  refine ⟨_, pe_cmp (pc_notN pa) rfl, fun δ F own G H ρ γ σ d ρ' γ' Q R e k => ?_⟩
  obtain ⟨⟨x, ρ1, γ1⟩, e1, e⟩ := bind_some e
  obtain ⟨z, e3, e⟩ := map_some e
  cases e
  refine qa δ F own G H ρ γ σ x _ _ _ R e1 fun v G1 H1 R1 s1 r1 => k _ G1 H1 R1 s1 ?_
  cases e3
  have : (!decide (v = V.non)) = (!isNone x) := by cases r1 <;> simp [isNone]
  rw [this]
  exact .bl _
theorem de_neg (ha : DE X a fa) : DE X (.UnaryOp .USub a pos) (f1 negD fa) := by
  obtain ⟨ta, pa, qa⟩ := ha
  refine ⟨_, pe_un un_neg pa, fun δ F own G H ρ γ σ d ρ' γ' Q R e k => ?_⟩
  obtain ⟨⟨x, ρ1, γ1⟩, e1, e⟩ := bind_some e
  obtain ⟨z, e3, e⟩ := map_some e
  cases e
  refine qa δ F own G H ρ γ σ x _ _ _ R e1 fun v G1 H1 R1 s1 r1 => ?_
  cases x <;> simp only [negD, reduceCtorEq, Option.some.injEq] at e3
  cases e3; cases r1.int_inv
  exact ⟨_, rfl, k _ G1 H1 R1 s1 (.int _)⟩
theorem da_nil : DA X [] fNil := ⟨_, pa_nil, fun δ F own G H ρ γ σ d ρ' γ' Q R e k => by cases e; exact k _ G H R (Same.refl _) .nil⟩
theorem da_cons (ha : DE X e fa) (hr : DA X es fs) (hs : starEach (e :: es) X.env = (false, eval e X.env) :: starEach es X.env := by rfl) : DA X (e :: es) (fCons fa fs) := by
  obtain ⟨ta, pa, qa⟩ := ha
  obtain ⟨tb, pb, qb⟩ := hr
  refine ⟨_, pa_cons pa pb hs, fun δ F own G H ρ γ σ d ρ' γ' Q R e k => ?_⟩
  obtain ⟨⟨x, ρ1, γ1⟩, e1, e⟩ := bind_some e
  obtain ⟨⟨y, ρ2, γ2⟩, e2, e⟩ := map_some e
  cases e
  refine qa δ F own G H ρ γ σ x _ _ _ R e1 fun v G1 H1 R1 s1 r1 => qb δ F own G1 H1 _ _ σ y _ _ _ R1 e2 fun u G2 H2 R2 s2 r2 => ?_
  exact k _ G2 H2 R2 (s1.trans s2) (.cons (r1.mono s2) r2)
/-- a tuple display, its object known -/
def tTupF (t : TA) : TE := fun σ H Q => t σ H fun xs H1 => xs.length ≤ sizeLine ∧ ∀ p us, H1 p = none → Q (.ref p) (upd H1 p (.frz (tupO us) (.tup xs)))
theorem pe_tupF {x1 : Nat} {t : TA} (h : PA X es t) : PE X (.Tuple es x1 pos) (tTupF t) := by
  refine ⟨fun pins s σ H Q I hq => ?_⟩
  refine wpAny_Tuple_spliced (thn (h.run pos pins s σ H _ I hq) fun us s1 ⟨xs, H1, I1, r, z, q⟩ => ⟨by rw [← r.length]; exact z, ?_⟩)
  exact ⟨.ref s1.heap.objs.size, _, lay_tup (tk := s1.toks) I1 (fun _ _ z => z) (Nat.le_refl _) r z, rfl, q _ us (I1.hok.fresh (Nat.le_refl _))⟩
theorem de_tup {k' : Nat} (h : DA X es fs) : DE X (.Tuple es k' pos) (fTup fs) := by
  obtain ⟨ta, pa, qa⟩ := h
  refine ⟨_, pe_tupF pa, fun δ F own G H ρ γ σ d ρ' γ' Q R e k => ?_⟩
  obtain ⟨⟨x, ρ1, γ1⟩, e1, e⟩ := bind_some e
  obtain ⟨z, e3, e⟩ := map_some e
  cases e
  dsimp only at e3
  split at e3
  · rename_i hz
    cases e3
    refine qa δ F own G H ρ γ σ x _ _ _ R e1 fun v G1 H1 R1 s1 r1 => ⟨by rw [r1.length]; exact hz, fun p us hp => ?_⟩
    have st := Step.new R1.sub hp (.frz (tupO us) (.tup v))
    exact k _ _ _ (R1.step st) (s1.trans st.sg) (.tup (SqD.of upd_same rfl) (r1.mono st.sg))
  · cases e3
theorem de_lst (h : DA X es fs) : DE X (.List es pos) (fLst fs) := by
  obtain ⟨ta, pa, qa⟩ := h
  refine ⟨_, pe_lst pa, fun δ F own G H ρ γ σ d ρ' γ' Q R e k => ?_⟩
  obtain ⟨⟨x, ρ1, γ1⟩, e1, e⟩ := bind_some e
  obtain ⟨z, e3, e⟩ := map_some e
  cases e
  dsimp only at e3
  split at e3
  · rename_i hz
    cases e3
    refine qa δ F own G H ρ γ σ x _ _ _ R e1 fun v G1 H1 R1 s1 r1 => ⟨by rw [r1.length]; exact hz, fun p hp => ?_⟩
    have st := Step.new R1.sub hp (.lst v)
    exact k _ _ _ (R1.step st) (s1.trans st.sg) (.lst (SqX.of upd_same) (r1.mono st.sg))
  · cases e3
theorem de_ix (ha : DE X a fa) (hb : DE X b fb) (hs : PlainIx b := by exact fun _ _ => rfl) : DE X (.Subscript a b pos) (f2 ixD fa fb) := by
  obtain ⟨ta, pa, qa⟩ := ha
  obtain ⟨tb, pb, qb⟩ := hb
  refine ⟨_, pe_ix id_ix pa pb hs, fun δ F own G H ρ γ σ d ρ' γ' Q R e k => ?_⟩
  obtain ⟨⟨x, ρ1, γ1⟩, e1, e⟩ := bind_some e
  obtain ⟨⟨y, ρ2, γ2⟩, e2, e⟩ := bind_some e
  obtain ⟨z, e3, e⟩ := map_some e
  cases e
  refine qa δ F own G H ρ γ σ x _ _ _ R e1 fun v G1 H1 R1 s1 r1 => qb δ F own G1 H1 _ _ σ y _ _ _ R1 e2 fun u G2 H2 R2 s2 r2 => ?_
  exact ⟨G2, x, y, d, R2.sub, r1.mono s2, r2, e3, fun w G' H' st r => k w G' H' (R2.step st) ((s1.trans s2).trans st.sg) r⟩
/-- a built-in function, a built-in class -/
theorem de_callB {id : String} {x : Str} {g : List D → Option D} (hc : CallR X (.builtin id) (rsD X.K g)) (hg : Gl X x) (hm : X.mg x = none) (hv : bootBuiltins x = some (.builtin id)) (ha : DA X (e :: es) fs) (hn : x ≠ "__name__" := by decide) (hdb : (x == ("__debug__" : Str)) = false := by decide)
    (he : starEach (e :: es) X.env = (false, eval e X.env) :: starEach es X.env := by rfl) (hpl : (backTo pos (starEach es X.env)).any (·.1) = false := by rfl) : DE X (.Call (.Name x p) (e :: es) [] pos) (fS g fs) := by
  obtain ⟨ta, pa, qa⟩ := ha
  refine ⟨_, pe_callB hc hg hm hv pa hn hdb he hpl, fun δ F own G H ρ γ σ d ρ' γ' Q R e k => ?_⟩
  obtain ⟨⟨x, ρ1, γ1⟩, e1, e⟩ := bind_some e
  obtain ⟨z, e3, e⟩ := map_some e
  cases e
  refine qa δ F own G H ρ γ σ x _ _ _ R e1 fun v G1 H1 R1 s1 r1 => ?_
  exact ⟨G1, x, d, R1.sub, r1, e3, fun w G' H' st r => k w G' H' (R1.step st) (s1.trans st.sg) r⟩
theorem de_callT {T : String} {x : Str} {g : List D → Option D} (hc : CallR X (.type T) (rsD X.K g)) (hg : Gl X x) (hm : X.mg x = none) (hv : bootBuiltins x = some (.type T)) (ha : DA X (e :: es) fs) (hn : x ≠ "__name__" := by decide) (hdb : (x == ("__debug__" : Str)) = false := by decide)
    (he : starEach (e :: es) X.env = (false, eval e X.env) :: starEach es X.env := by rfl) (hpl : (backTo pos (starEach es X.env)).any (·.1) = false := by rfl) : DE X (.Call (.Name x p) (e :: es) [] pos) (fS g fs) := by
  obtain ⟨ta, pa, qa⟩ := ha
  refine ⟨_, pe_callTy hc hg hm hv pa hn hdb he hpl, fun δ F own G H ρ γ σ d ρ' γ' Q R e k => ?_⟩
  obtain ⟨⟨x, ρ1, γ1⟩, e1, e⟩ := bind_some e
  obtain ⟨z, e3, e⟩ := map_some e
  cases e
  refine qa δ F own G H ρ γ σ x _ _ _ R e1 fun v G1 H1 R1 s1 r1 => ?_
  exact ⟨G1, x, d, R1.sub, r1, e3, fun w G' H' st r => k w G' H' (R1.step st) (s1.trans st.sg) r⟩

theorem dt_tru (ha : DE X a fa) (he : ∀ whole, isTrue a X.env whole = (do let v ← whole; standAt a.pos; holding [v] (truthy v)) := by intro _; rfl) : DT X a (fTru fa) := by
  obtain ⟨ta, pa, qa⟩ := ha
  refine ⟨_, pt_truth pa he, fun δ F own G H ρ γ σ d ρ' γ' Q R e k => ?_⟩
  obtain ⟨⟨x, ρ1, γ1⟩, e1, e⟩ := bind_some e
  obtain ⟨z, e3, e⟩ := map_some e
  cases e
  refine qa δ F own G H ρ γ σ x _ _ _ R e1 fun v G1 H1 R1 s1 r1 => ⟨d, ?_, k G1 H1 R1 s1⟩
  cases x with
  | none => cases r1.non_inv; cases e3; rfl
  | bool b => cases r1.bl_inv; cases e3; rfl
  | int i => cases r1.int_inv; cases e3; rfl
  | str y =>
    cases r1.str_inv
    simp only [truD] at e3
    split at e3
    · rename_i hz
      cases e3
      refine ⟨hz, ?_⟩
      cases y.length <;> rfl
    · cases e3
  | list ys =>
    obtain ⟨l, vs, rfl, hq, hs⟩ := r1.lst_inv
    cases e3
    refine Or.inl ⟨vs, R1.sub.seq hq, ?_⟩
    cases hs <;> rfl
  | tuple ys =>
    obtain ⟨l, vs, rfl, hq, hs⟩ := r1.tup_inv
    cases e3
    refine Or.inr (Or.inl ⟨vs, sqt_same R1.sub hq, ?_⟩)
    cases hs <;> rfl
  | dict kvs => cases e3
/-- a comparison, as a test -/
theorem dt_val (ha : DE X a fa) (he : ∀ whole, isTrue a X.env whole = (do let v ← whole; standAt a.pos; holding [v] (truthy v)) := by intro _; rfl) : DT X a (fBl fa) := by
  obtain ⟨ta, pa, qa⟩ := ha
  refine ⟨_, pt_val pa he, fun δ F own G H ρ γ σ d ρ' γ' Q R e k => ?_⟩
  obtain ⟨⟨x, ρ1, γ1⟩, e1, e⟩ := bind_some e
  refine qa δ F own G H ρ γ σ x _ _ _ R e1 fun v G1 H1 R1 s1 r1 => ?_
  cases x <;> simp only [reduceCtorEq, Option.some.injEq] at e
  cases e; cases r1.bl_inv
  exact ⟨_, rfl, k G1 H1 R1 s1⟩
theorem dt_cmp {op : CmpOp} {g : D → D → Option D} (ho : OpR X (compareOp op) (rD X.K g)) (ha : DE X a fa) (hb : DE X b fb) (hm : behindInMarks op b = false := by first | exact nobehind _ (by decide) (by decide) | rfl) : DT X (.Compare a [op] [b] pos) (fBl (f2 g fa fb)) := by
  obtain ⟨ta, pa, qa⟩ := ha
  obtain ⟨tb, pb, qb⟩ := hb
  refine ⟨_, pt_cmpR ho pa pb hm, fun δ F own G H ρ γ σ d ρ' γ' Q R e k => ?_⟩
  obtain ⟨⟨z, ρ3, γ3⟩, e0, e⟩ := bind_some e
  obtain ⟨⟨x, ρ1, γ1⟩, e1, e0⟩ := bind_some e0
  obtain ⟨⟨y, ρ2, γ2⟩, e2, e0⟩ := bind_some e0
  obtain ⟨z', e3, e0⟩ := map_some e0
  cases e0
  cases z <;> simp only [reduceCtorEq, Option.some.injEq] at e
  cases e
  refine qa δ F own G H ρ γ σ x _ _ _ R e1 fun v G1 H1 R1 s1 r1 => qb δ F own G1 H1 _ _ σ y _ _ _ R1 e2 fun u G2 H2 R2 s2 r2 => ?_
  refine ⟨G2, x, y, _, R2.sub, r1.mono s2, r2, e3, fun w G' H' st r => ?_⟩
  cases r.bl_inv
  exact ⟨_, rfl, k G' H' (R2.step st) ((s1.trans s2).trans st.sg)⟩
theorem dw_and1 (ha : DT X a ft) : DW X (.BoolOp .And [a] pos) ft := by
  obtain ⟨ta, pa, qa⟩ := ha
  exact ⟨_, pw_and1 pa, qa⟩
theorem dw_or1 (ha : DT X a ft) : DW X (.BoolOp .Or [a] pos) ft := by
  obtain ⟨ta, pa, qa⟩ := ha
  exact ⟨_, pw_or1 pa, qa⟩
theorem dw_and (ha : DT X a ft) (hb : DW X (.BoolOp .And (b :: es) pos) fu) : DW X (.BoolOp .And (a :: b :: es) pos) (fAndT ft fu) := by
  obtain ⟨ta, pa, qa⟩ := ha
  obtain ⟨tb, pb, qb⟩ := hb
  refine ⟨_, pw_and pa pb, fun δ F own G H ρ γ σ d ρ' γ' Q R e k => ?_⟩
  obtain ⟨⟨x, ρ1, γ1⟩, e1, e⟩ := bind_some e
  refine qa δ F own G H ρ γ σ x _ _ _ R e1 fun G1 H1 R1 s1 => ?_
  cases x with
  | true => exact iteT (qb δ F own G1 H1 _ _ σ d ρ' γ' _ R1 e fun G2 H2 R2 s2 => k G2 H2 R2 (s1.trans s2))
  | false => cases e; exact iteF (k G1 H1 R1 s1)
theorem dw_or (ha : DT X a ft) (hb : DW X (.BoolOp .Or (b :: es) pos) fu) : DW X (.BoolOp .Or (a :: b :: es) pos) (fOrT ft fu) := by
  obtain ⟨ta, pa, qa⟩ := ha
  obtain ⟨tb, pb, qb⟩ := hb
  refine ⟨_, pw_or pa pb, fun δ F own G H ρ γ σ d ρ' γ' Q R e k => ?_⟩
  obtain ⟨⟨x, ρ1, γ1⟩, e1, e⟩ := bind_some e
  refine qa δ F own G H ρ γ σ x _ _ _ R e1 fun G1 H1 R1 s1 => ?_
  cases x with
  | false => exact iteF (qb δ F own G1 H1 _ _ σ d ρ' γ' _ R1 e fun G2 H2 R2 s2 => k G2 H2 R2 (s1.trans s2))
  | true => cases e; exact iteT (k G1 H1 R1 s1)
theorem dt_w (h : DW X a ft) : DT X a ft := by
  obtain ⟨ta, pa, qa⟩ := h
  exact ⟨_, pa.pt, qa⟩
theorem dt_not (ha : DT X a ft) : DT X (.UnaryOp .Not a pos) (fNotT ft) := by
  obtain ⟨ta, pa, qa⟩ := ha
  refine ⟨_, pt_not pa, fun δ F own G H ρ γ σ d ρ' γ' Q R e k => ?_⟩
  obtain ⟨⟨x, ρ1, γ1⟩, e1, e⟩ := map_some e
  cases e
  exact qa δ F own G H ρ γ σ x _ _ _ R e1 fun G1 H1 R1 s1 => k G1 H1 R1 s1
theorem de_if (hc : DT X c ft) (ha : DE X a fa) (hb : DE X b fb) : DE X (.IfExp c a b pos) (fIf ft fa fb) := by
  obtain ⟨tc, pc, qc⟩ := hc
  obtain ⟨ta, pa, qa⟩ := ha
  obtain ⟨tb, pb, qb⟩ := hb
  refine ⟨_, pe_ifExp pc pa pb, fun δ F own G H ρ γ σ d ρ' γ' Q R e k => ?_⟩
  obtain ⟨⟨x, ρ1, γ1⟩, e1, e⟩ := bind_some e
  refine qc δ F own G H ρ γ σ x _ _ _ R e1 fun G1 H1 R1 s1 => ?_
  cases x with
  | true => exact iteT (qa δ F own G1 H1 _ _ σ d ρ' γ' _ R1 e fun v G2 H2 R2 s2 r2 => k v G2 H2 R2 (s1.trans s2) r2)
  | false => exact iteF (qb δ F own G1 H1 _ _ σ d ρ' γ' _ R1 e fun v G2 H2 R2 s2 r2 => k v G2 H2 R2 (s1.trans s2) r2)
theorem de_one {op : BoolOp} (ha : DE X a fa) : DE X (.BoolOp op [a] pos) fa := by
  obtain ⟨ta, pa, qa⟩ := ha
  exact ⟨_, pe_one pa, qa⟩
theorem de_and (ha : DE X a fa) (hb : DE X (.BoolOp .And (b :: es) pos) fb) : DE X (.BoolOp .And (a :: b :: es) pos) (fAnd fa fb) := by
  obtain ⟨ta, pa, qa⟩ := ha
  obtain ⟨tb, pb, qb⟩ := hb
  refine ⟨_, pe_and pa pb, fun δ F own G H ρ γ σ d ρ' γ' Q R e k => ?_⟩
  obtain ⟨⟨x, ρ1, γ1⟩, e1, e⟩ := bind_some e
  refine qa δ F own G H ρ γ σ x _ _ _ R e1 fun v G1 H1 R1 s1 r1 => ?_
  split at e
  · rename_i hx
    have hx : x = .bool true := hx
    subst hx
    cases r1.bl_inv
    exact ⟨_, rfl, iteT (qb δ F own G1 H1 _ _ σ d ρ' γ' _ R1 e fun v G2 H2 R2 s2 r2 => k v G2 H2 R2 (s1.trans s2) r2)⟩
  · rename_i hx
    have hx : x = .bool false := hx
    subst hx
    cases r1.bl_inv
    cases e
    exact ⟨_, rfl, iteF (k _ G1 H1 R1 s1 (.bl _))⟩
  · cases e
theorem de_or (ha : DE X a fa) (hb : DE X (.BoolOp .Or (b :: es) pos) fb) : DE X (.BoolOp .Or (a :: b :: es) pos) (fOr fa fb) := by
  obtain ⟨ta, pa, qa⟩ := ha
  obtain ⟨tb, pb, qb⟩ := hb
  refine ⟨_, pe_or pa pb, fun δ F own G H ρ γ σ d ρ' γ' Q R e k => ?_⟩
  obtain ⟨⟨x, ρ1, γ1⟩, e1, e⟩ := bind_some e
  refine qa δ F own G H ρ γ σ x _ _ _ R e1 fun v G1 H1 R1 s1 r1 => ?_
  split at e
  · rename_i hx
    have hx : x = .bool false := hx
    subst hx
    cases r1.bl_inv
    exact ⟨_, rfl, iteF (qb δ F own G1 H1 _ _ σ d ρ' γ' _ R1 e fun v G2 H2 R2 s2 r2 => k v G2 H2 R2 (s1.trans s2) r2)⟩
  · rename_i hx
    have hx : x = .bool true := hx
    subst hx
    cases r1.bl_inv
    cases e
    exact ⟨_, rfl, iteT (k _ G1 H1 R1 s1 (.bl _))⟩
  · cases e
theorem de_not (ha : DE X a fa) : DE X (.UnaryOp .Not a pos) (fNot fa) := by
  obtain ⟨ta, pa, qa⟩ := ha
  refine ⟨_, pe_not pa, fun δ F own G H ρ γ σ d ρ' γ' Q R e k => ?_⟩
  obtain ⟨⟨x, ρ1, γ1⟩, e1, e⟩ := bind_some e
  obtain ⟨z, e3, e⟩ := map_some e
  cases e
  refine qa δ F own G H ρ γ σ x _ _ _ R e1 fun v G1 H1 R1 s1 r1 => ?_
  cases x <;> simp only [notD, reduceCtorEq, Option.some.injEq] at e3
  cases e3; cases r1.bl_inv
  exact ⟨_, rfl, k _ G1 H1 R1 s1 (.bl _)⟩

def DO (X : Cx) (e : Option Expr) (f : Fo) : Prop := ∃ t, PO X e t ∧ ∀ (δ : List Addr) (F : Fm) (own : Nat → Addr) (G H : Hp) (ρ : Row) (γ : Bxs) (σ : L2.St) (d : Option Int) (ρ' : Row) (γ' : Bxs) (Q : Option Int → Hp → Prop),
  Rel X.K δ F own G H ρ γ σ → f ρ γ = some (d, ρ', γ') → (∀ G' H', Rel X.K δ F own G' H' ρ' γ' σ → Same G G' → Q d H') → t σ H Q
theorem do_none : DO X none fNo := ⟨_, po_none, fun δ F own G H ρ γ σ d ρ' γ' Q R e k => by cases e; exact k G H R (Same.refl _)⟩
theorem do_some (ha : DE X a fa) : DO X (some a) (fPt fa) := by
  obtain ⟨ta, pa, qa⟩ := ha
  refine ⟨_, po_some pa, fun δ F own G H ρ γ σ d ρ' γ' Q R e k => ?_⟩
  obtain ⟨⟨x, ρ1, γ1⟩, e1, e⟩ := bind_some e
  refine qa δ F own G H ρ γ σ x _ _ _ R e1 fun v G1 H1 R1 s1 r1 => ?_
  cases x <;> simp only [reduceCtorEq, Option.some.injEq] at e
  cases e; cases r1.int_inv
  exact ⟨_, rfl, k G1 H1 R1 s1⟩
theorem de_sl {lo hi : Option Expr} {fl fh : Fo} {p2 : Pos} (ha : DE X a fa) (hl : DO X lo fl) (hh : DO X hi fh) : DE X (.Subscript a (.Slice lo hi none p2) pos) (fSl fa fl fh) := by
  obtain ⟨ta, pa, qa⟩ := ha
  obtain ⟨tl, pl, ql⟩ := hl
  obtain ⟨th, ph, qh⟩ := hh
  refine ⟨_, pe_slice sd_sl pa pl ph, fun δ F own G H ρ γ σ d ρ' γ' Q R e k => ?_⟩
  obtain ⟨⟨x, ρ1, γ1⟩, e1, e⟩ := bind_some e
  obtain ⟨⟨y, ρ2, γ2⟩, e2, e⟩ := bind_some e
  obtain ⟨⟨z, ρ3, γ3⟩, e3, e⟩ := bind_some e
  obtain ⟨w, e4, e⟩ := map_some e
  cases e
  refine qa δ F own G H ρ γ σ x _ _ _ R e1 fun v G1 H1 R1 s1 r1 => ql δ F own G1 H1 _ _ σ y _ _ _ R1 e2 fun G2 H2 R2 s2 => qh δ F own G2 H2 _ _ σ z _ _ _ R2 e3 fun G3 H3 R3 s3 => ?_
  exact ⟨G3, x, d, R3.sub, r1.mono (s2.trans s3), e4, fun w' G' H' st r => k w' G' H' (R3.step st) (((s1.trans s2).trans s3).trans st.sg) r⟩
end
end DL

namespace DL
open PySem PySem.Spec PyProof.Rows L2

/-- how a statement ends -/
inductive Oc where
  | nx (ρ : Row) (γ : Bxs) | rt (s : Sl) (γ : Bxs) | bk (ρ : Row) (γ : Bxs) | ct (ρ : Row) (γ : Bxs)
abbrev Fst := Row → Bxs → Option Oc
/-- what is left when a def is left -/
structure Fin (K : Fg) (δ : List Addr) (F : Fm) (γ : Bxs) (G H : Hp) : Prop where
  wd : Wd K δ γ G H
  g0 : Same F.G G
  q0 : ∀ b, F.H b ≠ none → F.G b = none → G b = none
  h0 : ∀ b o, F.H b = some o → F.G b = none → b ∉ δ → H b = some o
theorem Rel.fin {K : Fg} {δ : List Addr} {F : Fm} {own : Nat → Addr} {G H : Hp} {ρ : Row} {γ : Bxs} {σ : L2.St} (r : Rel K δ F own G H ρ γ σ) : Fin K δ F γ G H := ⟨r.wd, r.g0, r.q0, r.h0⟩
/-- what is handed back: data, or a new list -/
def RetV (K : Fg) (δ : List Addr) (F : Fm) (G H : Hp) (v : V) : Sl → Prop
  | .d x => Rep K G v x
  | .ol xs => ∃ p vs, v = .ref p ∧ G p = none ∧ p ∉ δ ∧ F.H p = none ∧ H p = some (.lst vs) ∧ Reps K G vs xs
  | _ => False
def EndOk (K : Fg) (δ : List Addr) (F : Fm) (G : Hp) (E : Ends) : Oc → Prop
  | .nx ρ γ => ∀ own G' H' σ, Rel K δ F own G' H' ρ γ σ → Same G G' → E.nx σ H'
  | .rt s γ => ∀ v G' H', Fin K δ F γ G' H' → RetV K δ F G' H' v s → E.rt v H'
  | .bk ρ γ => ∀ own G' H' σ, Rel K δ F own G' H' ρ γ σ → Same G G' → E.bk σ H'
  | .ct ρ γ => ∀ own G' H' σ, Rel K δ F own G' H' ρ γ σ → Same G G' → E.ct σ H'
theorem EndOk.mono {K : Fg} {δ : List Addr} {F : Fm} {G G1 : Hp} {E : Ends} (e : Same G G1) : ∀ {o : Oc}, EndOk K δ F G E o → EndOk K δ F G1 E o
  | .nx _ _, h => fun own G' H' σ r s => h own G' H' σ r (e.trans s)
  | .rt _ _, h => h
  | .bk _ _, h => fun own G' H' σ r s => h own G' H' σ r (e.trans s)
  | .ct _ _, h => fun own G' H' σ r s => h own G' H' σ r (e.trans s)

def DS (X : Cx) (st : Stmt) (f : Fst) : Prop := ∃ t, PS X st t ∧ ∀ (δ : List Addr) (F : Fm) (own : Nat → Addr) (G H : Hp) (ρ : Row) (γ : Bxs) (σ : L2.St) (o : Oc) (E : Ends),
  Rel X.K δ F own G H ρ γ σ → f ρ γ = some o → EndOk X.K δ F G E o → t E σ H
def DB (X : Cx) (sts : List Stmt) (f : Fst) : Prop := ∃ t, PSs X sts t ∧ ∀ (δ : List Addr) (F : Fm) (own : Nat → Addr) (G H : Hp) (ρ : Row) (γ : Bxs) (σ : L2.St) (o : Oc) (E : Ends),
  Rel X.K δ F own G H ρ γ σ → f ρ γ = some o → EndOk X.K δ F G E o → t E σ H

section
variable {K : Fg} {δ : List Addr} {F : Fm} {own : Nat → Addr} {G H : Hp} {ρ : Row} {γ : Bxs} {σ : L2.St}
theorem get_set_ne {α : Type} {l : List α} {i j : Nat} {x : α} (h : i ≠ j) : (l.set i x)[j]? = l[j]? := by
  rw [List.getElem?_set]; simp [h]
theorem get_set_eq {α : Type} {l : List α} {i : Nat} {x : α} (h : i < l.length) : (l.set i x)[i]? = some x := by
  rw [List.getElem?_set]; simp [h]
/-- data to slot i -/
theorem Rel.setD (r : Rel K δ F own G H ρ γ σ) {i : Nat} {v : V} {d : D} (h : Rep K G v d) : Rel K δ F own G H (ρ.set i (.d d)) γ (σ.set i (some v)) := by
  refine ⟨r.wd, r.g0, r.q0, r.h0, by rw [List.length_set, List.length_set]; exact r.len, fun j s hj => ?_, fun j xs hj => ?_, fun j k xs ys hj hk => ?_⟩
  · by_cases e : i = j
    · subst e
      have hl : i < ρ.length := by
        have := (List.getElem?_eq_some_iff.mp hj).1
        rw [List.length_set] at this; exact this
      rw [get_set_eq hl] at hj
      cases hj
      exact ⟨v, get_set_eq (by rw [← r.len]; exact hl), h⟩
    · rw [get_set_ne e] at hj ⊢
      exact r.slot j s hj
  · by_cases e : i = j
    · subst e
      have hl : i < ρ.length := by
        have := (List.getElem?_eq_some_iff.mp hj).1
        rw [List.length_set] at this; exact this
      rw [get_set_eq hl] at hj
      cases hj
    · rw [get_set_ne e] at hj
      exact r.ownd j xs hj
  · have hij : i ≠ j := fun e => by
      subst e
      have hl : i < ρ.length := by
        have := (List.getElem?_eq_some_iff.mp hj).1
        rw [List.length_set] at this; exact this
      rw [get_set_eq hl] at hj
      cases hj
    have hik : i ≠ k := fun e => by
      subst e
      have hl : i < ρ.length := by
        have := (List.getElem?_eq_some_iff.mp hk).1
        rw [List.length_set] at this; exact this
      rw [get_set_eq hl] at hk
      cases hk
    rw [get_set_ne hij] at hj
    rw [get_set_ne hik] at hk
    exact r.inj j k xs ys hj hk
/-- a list that is nobody's: what an own list is made of -/
structure Free (δ : List Addr) (F : Fm) (own : Nat → Addr) (G : Hp) (ρ : Row) (p : Addr) : Prop where
  g : G p = none
  d : p ∉ δ
  f : F.H p = none
  o : ∀ (j : Nat) (xs : List D), ρ[j]? = some (.ol xs) → own j ≠ p
theorem Rel.live (r : Rel K δ F own G H ρ γ σ) {p : Addr} (h : H p = none) : Free δ F own G ρ p := by
  refine ⟨r.sub.free h, fun z => r.wd.live z h, ?_, fun j xs hj e => ?_⟩
  · cases q : F.H p with
    | none => rfl
    | some o =>
      cases z : F.G p with
      | some u =>
        have := r.sub _ _ (r.g0 _ _ z)
        rw [h] at this; cases this
      | none =>
        by_cases hd : p ∈ δ
        · exact absurd h (r.wd.live hd)
        · have := r.h0 p o q z hd
          rw [h] at this; cases this
  · obtain ⟨_, vs, h2, _⟩ := r.slot j _ hj
    rw [e, h] at h2; cases h2
/-- an own list to slot i -/
theorem Rel.setO (r : Rel K δ F own G H ρ γ σ) {i : Nat} {p : Addr} {vs : List V} {ds : List D} (f : Free δ F own G ρ p) (hp : H p = some (.lst vs)) (h : Reps K G vs ds) :
    Rel K δ F (fun j => if j = i then p else own j) G H (ρ.set i (.ol ds)) γ (σ.set i (some (.ref p))) := by
  have lt : ∀ {s : Sl} {j : Nat}, (ρ.set i s)[j]? ≠ none → j < ρ.length := fun {s j} h => by
    have := List.getElem?_eq_none_iff (l := ρ.set i s) (i := j)
    rw [List.length_set] at this
    exact Nat.lt_of_not_le fun z => h (this.mpr z)
  refine ⟨r.wd, r.g0, r.q0, r.h0, by rw [List.length_set, List.length_set]; exact r.len, fun j s hj => ?_, fun j xs hj => ?_, fun j k xs ys hj hk => ?_⟩
  · by_cases e : i = j
    · subst e
      have hl : i < ρ.length := lt (by rw [hj]; intro z; cases z)
      rw [get_set_eq hl] at hj
      cases hj
      rw [if_pos rfl]
      exact ⟨get_set_eq (by rw [← r.len]; exact hl), vs, hp, h⟩
    · rw [get_set_ne e] at hj ⊢
      rw [if_neg (fun z => e z.symm)]
      exact r.slot j s hj
  · by_cases e : i = j
    · subst e
      rw [if_pos rfl]
      exact ⟨f.g, f.d, f.f⟩
    · rw [get_set_ne e] at hj
      rw [if_neg (fun z => e z.symm)]
      exact r.ownd j xs hj
  · by_cases ej : i = j
    · by_cases ek : i = k
      · exact fun _ => ej.symm.trans ek
      · rw [get_set_ne ek] at hk
        rw [if_pos ej.symm, if_neg (fun z => ek z.symm)]
        exact fun z => absurd z.symm (f.o k ys hk)
    · rw [get_set_ne ej] at hj
      by_cases ek : i = k
      · rw [if_neg (fun z => ej z.symm), if_pos ek.symm]
        exact fun z => absurd z (f.o j xs hj)
      · rw [get_set_ne ek] at hk
        rw [if_neg (fun z => ej z.symm), if_neg (fun z => ek z.symm)]
        exact r.inj j k xs ys hj hk
/-- the own list of slot i is written -/
theorem Rel.write (r : Rel K δ F own G H ρ γ σ) {i : Nat} {xs ds : List D} {vs : List V} (hi : ρ[i]? = some (.ol xs)) (h : Reps K G vs ds) :
    Rel K δ F own G (upd H (own i) (.lst vs)) (ρ.set i (.ol ds)) γ σ := by
  obtain ⟨o1, o2, o3⟩ := r.ownd i xs hi
  have hl : i < ρ.length := (List.getElem?_eq_some_iff.mp hi).1
  refine ⟨⟨fun b u e => ?_, r.wd.len, r.wd.nd, r.wd.out, fun n c hc => ?_⟩, r.g0, r.q0, fun b o h1 h2 h3 => ?_, by rw [List.length_set]; exact r.len, fun j s hj => ?_, fun j ys hj => ?_, fun j k ys zs hj hk => ?_⟩
  · have hb : b ≠ own i := fun z => by rw [z, o1] at e; cases e
    rw [upd_ne hb]; exact r.sub _ _ e
  · obtain ⟨a, ws, h1, h2, h3⟩ := r.wd.cell n c hc
    refine ⟨a, ws, h1, ?_, h3⟩
    have hb : a ≠ own i := fun z => o2 (z ▸ List.mem_of_getElem? h1)
    rw [upd_ne hb]; exact h2
  · have hb : b ≠ own i := fun z => by rw [z, o3] at h1; cases h1
    rw [upd_ne hb]; exact r.h0 b o h1 h2 h3
  · by_cases e : i = j
    · subst e
      rw [get_set_eq hl] at hj
      cases hj
      exact ⟨(r.slot i _ hi).1, vs, upd_same, h⟩
    · rw [get_set_ne e] at hj
      have q := r.slot j s hj
      cases s with
      | un => trivial
      | d x => exact q
      | bx n => exact q
      | ol ys =>
        obtain ⟨q1, ws, q2, q3⟩ := q
        refine ⟨q1, ws, ?_, q3⟩
        have hb : own j ≠ own i := fun z => e (r.inj i j xs ys hi hj z.symm)
        rw [upd_ne hb]; exact q2
  · by_cases e : i = j
    · subst e; exact ⟨o1, o2, o3⟩
    · rw [get_set_ne e] at hj; exact r.ownd j ys hj
  · by_cases ej : i = j
    · by_cases ek : i = k
      · exact fun _ => ej.symm.trans ek
      · rw [get_set_ne ek] at hk
        subst ej
        exact r.inj i k xs zs hi hk
    · rw [get_set_ne ej] at hj
      by_cases ek : i = k
      · subst ek
        exact r.inj j i ys xs hj hi
      · rw [get_set_ne ek] at hk
        exact r.inj j k ys zs hj hk
/-- the own list of slot i becomes data -/
def fzS (i : Nat) (ρ : Row) : Row := match ρ[i]? with
  | some (.ol xs) => ρ.set i (.d (.list xs))
  | _ => ρ
theorem Rel.freeze (r : Rel K δ F own G H ρ γ σ) (i : Nat) : ∃ G', Same G G' ∧ Rel K δ F own G' H (fzS i ρ) γ σ := by
  unfold fzS
  split
  · rename_i xs hi
    obtain ⟨o1, o2, o3⟩ := r.ownd i xs hi
    obtain ⟨s1, vs, s2, s3⟩ := r.slot i _ hi
    have sg : Same G (upd G (own i) (.lst vs)) := fun b u e => by
      have hb : b ≠ own i := fun z => by rw [z, o1] at e; cases e
      rw [upd_ne hb]; exact e
    have hl : i < ρ.length := (List.getElem?_eq_some_iff.mp hi).1
    have ne : ∀ {j : Nat} {s : Sl}, (ρ.set i (.d (.list xs)))[j]? = some s → (∀ d, s ≠ .d d) → i ≠ j ∧ ρ[j]? = some s := fun {j s} hj hs => by
      have e : i ≠ j := fun e => by
        subst e
        rw [get_set_eq hl] at hj
        cases hj
        exact hs _ rfl
      rw [get_set_ne e] at hj
      exact ⟨e, hj⟩
    refine ⟨_, sg, ⟨⟨fun b u e => ?_, r.wd.len, r.wd.nd, fun a ha => ?_, fun n c hc => ?_⟩, r.g0.trans sg, fun b h1 h2 => ?_, r.h0, by rw [List.length_set]; exact r.len, fun j s hj => ?_, fun j ys hj => ?_, fun j k ys zs hj hk => ?_⟩⟩
    · by_cases hb : b = own i
      · rw [hb, upd_same] at e; cases e; rw [hb]; exact s2
      · rw [upd_ne hb] at e; exact r.sub _ _ e
    · have hb : a ≠ own i := fun z => o2 (by rw [← z]; exact ha)
      rw [upd_ne hb]; exact r.wd.out a ha
    · obtain ⟨a, ws, h1, h2, h3⟩ := r.wd.cell n c hc
      exact ⟨a, ws, h1, h2, h3.mono sg⟩
    · have hb : b ≠ own i := fun z => h1 (by rw [z]; exact o3)
      rw [upd_ne hb]; exact r.q0 b h1 h2
    · by_cases e : i = j
      · subst e
        rw [get_set_eq hl] at hj
        cases hj
        exact ⟨_, s1, .lst (SqX.of upd_same) (s3.mono sg)⟩
      · rw [get_set_ne e] at hj
        have q := r.slot j s hj
        cases s with
        | un => trivial
        | d x => obtain ⟨v, q1, q2⟩ := q; exact ⟨v, q1, q2.mono sg⟩
        | bx n => exact q
        | ol ys => obtain ⟨q1, ws, q2, q3⟩ := q; exact ⟨q1, ws, q2, q3.mono sg⟩
    · obtain ⟨e, hj⟩ := ne hj (fun d z => by cases z)
      obtain ⟨p1, p2, p3⟩ := r.ownd j ys hj
      refine ⟨?_, p2, p3⟩
      have hb : own j ≠ own i := fun z => e (r.inj i j xs ys hi hj z.symm)
      rw [upd_ne hb]; exact p1
    · obtain ⟨_, hj⟩ := ne hj (fun d z => by cases z)
      obtain ⟨_, hk⟩ := ne hk (fun d z => by cases z)
      exact r.inj j k ys zs hj hk
  · exact ⟨G, Same.refl _, r⟩
end
end DL

namespace DL
open PySem PySem.Spec PyProof.Rows L2

abbrev Fq := Row → Bxs → Option (Sl × Row × Bxs)
def SlV (K : Fg) (δ : List Addr) (F : Fm) (own : Nat → Addr) (ρ : Row) (G H : Hp) (v : V) : Sl → Prop
  | .d x => Rep K G v x
  | .ol xs => ∃ p vs, v = .ref p ∧ Free δ F own G ρ p ∧ H p = some (.lst vs) ∧ Reps K G vs xs
  | _ => False
def DQ (X : Cx) (e : Expr) (f : Fq) : Prop := ∃ t, PE X e t ∧ ∀ (δ : List Addr) (F : Fm) (own : Nat → Addr) (G H : Hp) (ρ : Row) (γ : Bxs) (σ : L2.St) (s : Sl) (ρ' : Row) (γ' : Bxs) (Q : VK),
  Rel X.K δ F own G H ρ γ σ → f ρ γ = some (s, ρ', γ') → (∀ v G' H', Rel X.K δ F own G' H' ρ' γ' σ → Same G G' → SlV X.K δ F own ρ' G' H' v s → Q v H') → t σ H Q
def qE (fa : Fx) : Fq := fun ρ γ => (fa ρ γ).map fun p => (.d p.1, p.2)
def qL (fa : Fs) : Fq := fun ρ γ => (fa ρ γ).bind fun p => if p.1.length ≤ sizeLine then some (.ol p.1, p.2) else none
section
variable {X : Cx} {e a b : Expr} {es : List Expr} {fa fb : Fx} {fs : Fs} {pos : Pos}
theorem dq_e (h : DE X e fa) : DQ X e (qE fa) := by
  obtain ⟨t, p, q⟩ := h
  refine ⟨t, p, fun δ F own G H ρ γ σ s ρ' γ' Q R e k => ?_⟩
  obtain ⟨⟨x, ρ1, γ1⟩, e1, e⟩ := map_some e
  cases e
  exact q δ F own G H ρ γ σ x _ _ _ R e1 fun v G' H' R' sg r => k v G' H' R' sg r
theorem Free.more {δ : List Addr} {F : Fm} {own : Nat → Addr} {G : Hp} {ρ : Row} {p : Addr} (f : Free δ F own G ρ p) : Free δ F own G ρ p := f
theorem dq_lst (h : DA X es fs) : DQ X (.List es pos) (qL fs) := by
  obtain ⟨ta, pa, qa⟩ := h
  refine ⟨_, pe_lst pa, fun δ F own G H ρ γ σ s ρ' γ' Q R e k => ?_⟩
  obtain ⟨⟨x, ρ1, γ1⟩, e1, e⟩ := bind_some e
  split at e
  · rename_i hz
    cases e
    refine qa δ F own G H ρ γ σ x _ _ _ R e1 fun v G1 H1 R1 s1 r1 => ⟨by rw [r1.length]; exact hz, fun p hp => ?_⟩
    have st := Step.own R1.sub hp (.lst v)
    exact k _ _ _ (R1.step st) s1 ⟨p, v, rfl, R1.live hp, upd_same, r1⟩
  · cases e
end

def sNext : Fst := fun ρ γ => some (.nx ρ γ)
def sSeq (f g : Fst) : Fst := fun ρ γ => (f ρ γ).bind fun o => match o with
  | .nx ρ1 γ1 => g ρ1 γ1
  | o => some o
def sFz (i : Nat) (f : Fst) : Fst := fun ρ γ => f (fzS i ρ) γ
def sRet (fq : Fq) : Fst := fun ρ γ => (fq ρ γ).map fun p => .rt p.1 p.2.2
/-- return x, x one's own list -/
def sRetO (i : Nat) : Fst := fun ρ γ => match ρ[i]? with
  | some (.ol xs) => some (.rt (.ol xs) γ)
  | _ => none
def sBreak : Fst := fun ρ γ => some (.bk ρ γ)
def sCont : Fst := fun ρ γ => some (.ct ρ γ)
def sDrop (fa : Fx) : Fst := fun ρ γ => (fa ρ γ).map fun p => .nx p.2.1 p.2.2
def sIf (c : Ft) (f g : Fst) : Fst := fun ρ γ => (c ρ γ).bind fun p => if p.1 = true then f p.2.1 p.2.2 else g p.2.1 p.2.2
def sSet (i : Nat) (fq : Fq) : Fst := fun ρ γ => (fq ρ γ).map fun p => .nx (p.2.1.set i p.1) p.2.2
section
variable {X : Cx} {e a b c : Expr} {st : Stmt} {sts : List Stmt} {f g : Fst} {fa fb : Fx} {ft : Ft} {fq fr : Fq} {pos : Pos}
theorem db_nil : DB X [] sNext := ⟨_, pss_nil, fun δ F own G H ρ γ σ o E R e k => by cases e; exact k own G H σ R (Same.refl _)⟩
theorem db_one (h : DS X st f) : DB X [st] f := by
  obtain ⟨t, p, q⟩ := h
  exact ⟨t, pss_one p, q⟩
theorem db_cons (h1 : DS X st f) (h2 : DB X sts g) : DB X (st :: sts) (sSeq f g) := by
  obtain ⟨t, p, q⟩ := h1
  obtain ⟨t2, p2, q2⟩ := h2
  refine ⟨_, pss_cons p p2, fun δ F own G H ρ γ σ o E R e k => ?_⟩
  obtain ⟨o1, e1, e⟩ := bind_some e
  refine q δ F own G H ρ γ σ o1 _ R e1 ?_
  cases o1 with
  | nx ρ1 γ1 => exact fun own' G' H' σ' R' sg => q2 δ F own' G' H' ρ1 γ1 σ' o E R' e (k.mono sg)
  | rt d γ1 => cases e; exact k
  | bk ρ1 γ1 => cases e; exact k
  | ct ρ1 γ1 => cases e; exact k
/-- (a ghost) the own list of slot i is data from here on -/
theorem db_fz (i : Nat) (h : DB X sts f) : DB X sts (sFz i f) := by
  obtain ⟨t, p, q⟩ := h
  refine ⟨t, p, fun δ F own G H ρ γ σ o E R e k => ?_⟩
  obtain ⟨G', sg, R'⟩ := R.freeze i
  exact q δ F own G' H _ γ σ o E R' e (k.mono sg)
theorem SlV.ret {K : Fg} {δ : List Addr} {F : Fm} {own : Nat → Addr} {ρ : Row} {G H : Hp} {v : V} : ∀ {s : Sl}, SlV K δ F own ρ G H v s → RetV K δ F G H v s
  | .d _, h => h
  | .ol _, ⟨p, vs, e, f, hp, hs⟩ => ⟨p, vs, e, f.g, f.d, f.f, hp, hs⟩
theorem ds_ret (h : DQ X e fq) : DS X (.Return (some e) pos) (sRet fq) := by
  obtain ⟨t, p, q⟩ := h
  refine ⟨_, ps_ret p, fun δ F own G H ρ γ σ o E R e k => ?_⟩
  obtain ⟨⟨x, ρ1, γ1⟩, e1, e⟩ := map_some e
  cases e
  exact q δ F own G H ρ γ σ x _ _ _ R e1 fun v G' H' R' sg r => k v G' H' R'.fin r.ret
theorem ds_retO {i : Nat} {x : Str} {p : Pos} (hv : PE X (.Name x p) (tVar i)) : DS X (.Return (some (.Name x p)) pos) (sRetO i) := by
  refine ⟨_, ps_ret hv, fun δ F own G H ρ γ σ o E R e k => ?_⟩
  unfold sRetO at e
  split at e
  · rename_i xs hi
    cases e
    obtain ⟨h1, vs, h2, h3⟩ := R.slot i _ hi
    obtain ⟨o1, o2, o3⟩ := R.ownd i xs hi
    exact ⟨_, h1, k _ G H R.fin ⟨_, vs, rfl, o1, o2, o3, h2, h3⟩⟩
  · cases e
theorem ds_pass : DS X (.Pass pos) sNext := ⟨_, ps_pass, fun δ F own G H ρ γ σ o E R e k => by cases e; exact k own G H σ R (Same.refl _)⟩
theorem ds_break : DS X (.Break pos) sBreak := ⟨_, ps_break, fun δ F own G H ρ γ σ o E R e k => by cases e; exact k own G H σ R (Same.refl _)⟩
theorem ds_cont : DS X (.Continue pos) sCont := ⟨_, ps_continue, fun δ F own G H ρ γ σ o E R e k => by cases e; exact k own G H σ R (Same.refl _)⟩
theorem ds_expr (h : DE X e fa) (hs : swapsWith e none pos.line X.env = pure false := by rfl) : DS X (.Expr e pos) (sDrop fa) := by
  obtain ⟨t, p, q⟩ := h
  refine ⟨_, ps_expr p hs, fun δ F own G H ρ γ σ o E R e k => ?_⟩
  obtain ⟨⟨x, ρ1, γ1⟩, e1, e⟩ := map_some e
  cases e
  exact q δ F own G H ρ γ σ x _ _ _ R e1 fun v G' H' R' sg r => k own G' H' σ R' sg
theorem ds_if {x y : List Stmt} (hc : DT X c ft) (ha : DB X x f) (hb : DB X y g) : DS X (.If c x y pos) (sIf ft f g) := by
  obtain ⟨tc, pc, qc⟩ := hc
  obtain ⟨ta, pa, qa⟩ := ha
  obtain ⟨tb, pb, qb⟩ := hb
  refine ⟨_, ps_if pc pa pb, fun δ F own G H ρ γ σ o E R e k => ?_⟩
  obtain ⟨⟨z, ρ1, γ1⟩, e1, e⟩ := bind_some e
  refine qc δ F own G H ρ γ σ z _ _ _ R e1 fun G1 H1 R1 s1 => ?_
  cases z with
  | true => exact iteT (qa δ F own G1 H1 _ _ σ o E R1 e (k.mono s1))
  | false => exact iteF (qb δ F own G1 H1 _ _ σ o E R1 e (k.mono s1))
/-- a statement that is not reached -/
theorem ds_never : DS X st (fun _ _ => none) := ⟨_, ps_never, fun δ F own G H ρ γ σ o E R e k => nomatch e⟩
/-- a slot is stored -/
theorem Rel.setV {K : Fg} {δ : List Addr} {F : Fm} {own : Nat → Addr} {G H : Hp} {ρ : Row} {γ : Bxs} {σ : L2.St} (r : Rel K δ F own G H ρ γ σ) (i : Nat) {v : V} : ∀ {s : Sl}, SlV K δ F own ρ G H v s → ∃ own', Rel K δ F own' G H (ρ.set i s) γ (σ.set i (some v))
  | .d x, h => ⟨own, r.setD h⟩
  | .ol xs, ⟨p, vs, e, f, hp, hs⟩ => by
    subst e
    exact ⟨_, r.setO f hp hs⟩
theorem ds_set {i : Nat} {x : Str} {pos' : Pos} (O : Okc X) (hi : X.N[i]? = some x) (hx : Loc X.env.scope x) (h : DQ X e fq) (hs : swapsWith e (some (.Name x pos')) pos.line X.env = pure false := by rfl) (hf : X.fn x = true ∨ X.env.scope.names.lookup x = some .local := by first | exact .inl rfl | exact .inr rfl | assumption) : DS X (.Assign [.Name x pos'] e pos) (sSet i fq) := by
  obtain ⟨t, p, q⟩ := h
  refine ⟨_, ps_set O.nd hi hx p hs hf, fun δ F own G H ρ γ σ o E R e k => ?_⟩
  obtain ⟨⟨s, ρ1, γ1⟩, e1, e⟩ := map_some e
  cases e
  refine q δ F own G H ρ γ σ s _ _ _ R e1 fun v G' H' R' sg r => ?_
  obtain ⟨own', R2⟩ := R'.setV i r
  exact k own' G' H' _ R2 sg

/-- the frame that keeps a new list meanwhile -/
def holdF (F : Fm) (v : V) (H : Hp) : Sl → Fm
  | .ol _ => match v with
    | .ref p => ⟨F.G, fun b => if b = p then H p else F.H b⟩
    | _ => F
  | _ => F
def sPar (i j : Nat) (fq fr : Fq) : Fst := fun ρ γ => (fq ρ γ).bind fun p => (fr p.2.1 p.2.2).map fun q => .nx ((q.2.1.set i p.1).set j q.1) q.2.2
theorem Rel.hold {K : Fg} {δ : List Addr} {F : Fm} {own : Nat → Addr} {G H : Hp} {ρ : Row} {γ : Bxs} {σ : L2.St} (r : Rel K δ F own G H ρ γ σ) {v : V} : ∀ {s : Sl}, SlV K δ F own ρ G H v s → Rel K δ (holdF F v H s) own G H ρ γ σ
  | .d x, h => r
  | .ol xs, ⟨p, vs, e, f, hp, hs⟩ => by
    subst e
    refine ⟨r.wd, r.g0, fun b h1 h2 => ?_, fun b o h1 h2 h3 => ?_, r.len, r.slot, fun i ys hi => ?_, r.inj⟩
    · by_cases hb : b = p
      · rw [hb]; exact f.g
      · have h1 : (if b = p then H p else F.H b) ≠ none := h1
        rw [if_neg hb] at h1
        exact r.q0 b h1 h2
    · by_cases hb : b = p
      · have h1 : (if b = p then H p else F.H b) = some o := h1
        rw [if_pos hb] at h1
        rw [hb]; exact h1
      · have h1 : (if b = p then H p else F.H b) = some o := h1
        rw [if_neg hb] at h1
        exact r.h0 b o h1 h2 h3
    · obtain ⟨o1, o2, o3⟩ := r.ownd i ys hi
      refine ⟨o1, o2, ?_⟩
      show (if own i = p then H p else F.H (own i)) = none
      rw [if_neg (f.o i ys hi)]
      exact o3
/-- back to the old frame, the list still free -/
theorem Rel.unhold {K : Fg} {δ : List Addr} {F : Fm} {own own' : Nat → Addr} {G H G' H' : Hp} {ρ ρ' : Row} {γ' : Bxs} {σ' : L2.St} {v : V} (g0 : Same F.G G) : ∀ {s : Sl}, SlV K δ F own ρ G H v s → Same G G' → Rel K δ (holdF F v H s) own' G' H' ρ' γ' σ' →
    Rel K δ F own' G' H' ρ' γ' σ' ∧ SlV K δ F own' ρ' G' H' v s
  | .d x, h, sg, r => ⟨r, h.mono sg⟩
  | .ol xs, ⟨p, vs, e, f, hp, hs⟩, sg, r => by
    subst e
    have up : ∀ b, b ≠ p → (holdF F (.ref p) H (.ol xs)).H b = F.H b := fun b hb => if_neg hb
    have atp : (holdF F (.ref p) H (.ol xs)).H p = some (.lst vs) := (if_pos rfl).trans hp
    have gp : F.G p = none := g0.free f.g
    have hne : ∀ b, F.H b ≠ none → b ≠ p := fun b h z => h (by rw [z]; exact f.f)
    refine ⟨⟨r.wd, r.g0, fun b h1 h2 => ?_, fun b o h1 h2 h3 => ?_, r.len, r.slot, fun i ys hi => ?_, r.inj⟩, p, vs, rfl, ⟨?_, f.d, f.f, fun j ys hj z => ?_⟩, ?_, hs.mono sg⟩
    · exact r.q0 b (by rw [up b (hne b h1)]; exact h1) h2
    · exact r.h0 b o (by rw [up b (hne b (by rw [h1]; intro z; cases z))]; exact h1) h2 h3
    · obtain ⟨o1, o2, o3⟩ := r.ownd i ys hi
      have hb : own' i ≠ p := fun z => by rw [z, atp] at o3; cases o3
      rw [up _ hb] at o3
      exact ⟨o1, o2, o3⟩
    · exact r.q0 p (by rw [atp]; intro z; cases z) gp
    · obtain ⟨o1, o2, o3⟩ := r.ownd j ys hj
      rw [z, atp] at o3; cases o3
    · exact r.h0 p _ atp gp f.d
theorem set_ol {ρ : Row} {i j : Nat} {s : Sl} {xs : List D} (h : (ρ.set i s)[j]? = some (.ol xs)) : (j = i ∧ s = .ol xs) ∨ (j ≠ i ∧ ρ[j]? = some (.ol xs)) := by
  by_cases e : i = j
  · subst e
    have hl : i < ρ.length := by
      have := (List.getElem?_eq_some_iff.mp h).1
      rw [List.length_set] at this; exact this
    rw [get_set_eq hl] at h
    exact Or.inl ⟨rfl, Option.some.inj h⟩
  · rw [get_set_ne e] at h
    exact Or.inr ⟨fun z => e z.symm, h⟩
theorem Rel.setV2 {K : Fg} {δ : List Addr} {F : Fm} {own : Nat → Addr} {G H : Hp} {ρ : Row} {γ : Bxs} {σ : L2.St} (r : Rel K δ F own G H ρ γ σ) (i j : Nat) {v w : V} : ∀ {s t : Sl}, SlV K δ F own ρ G H v s → SlV K δ F own ρ G H w t →
    (∀ xs ys p q, s = .ol xs → t = .ol ys → v = .ref p → w = .ref q → p ≠ q) → ∃ own', Rel K δ F own' G H ((ρ.set i s).set j t) γ ((σ.set i (some v)).set j (some w))
  | .d x, .d y, h, k, _ => ⟨own, (r.setD h).setD k⟩
  | .d x, .ol ys, h, ⟨q, vs, e, f, hq, hs⟩, _ => by
    subst e
    refine ⟨_, (r.setD h).setO ⟨f.g, f.d, f.f, fun l xs hl => ?_⟩ hq hs⟩
    rcases set_ol hl with ⟨_, z⟩ | ⟨_, z⟩
    · cases z
    · exact f.o l xs z
  | .ol xs, .d y, ⟨p, vs, e, f, hp, hs⟩, k, _ => by
    subst e
    exact ⟨_, (r.setO f hp hs).setD k⟩
  | .ol xs, .ol ys, ⟨p, vs, e, f, hp, hs⟩, ⟨q, ws, e', f', hq, hs'⟩, ne => by
    subst e
    subst e'
    refine ⟨_, (r.setO f hp hs).setO ⟨f'.g, f'.d, f'.f, fun l zs hl => ?_⟩ hq hs'⟩
    rcases set_ol hl with ⟨z, _⟩ | ⟨z1, z2⟩
    · rw [if_pos z]; exact ne xs ys p q rfl rfl rfl rfl
    · rw [if_neg z1]; exact f'.o l zs z2
theorem ds_par {i j : Nat} {x y : Str} {px py pt : Pos} {kt k2 : Nat} {pt2 : Pos} (O : Okc X) (hi : X.N[i]? = some x) (hj : X.N[j]? = some y) (hij : i ≠ j)
    (hx : X.env.scope.names.lookup x = some .local) (hy : X.env.scope.names.lookup y = some .local) (ha : DQ X a fq) (hb : DQ X b fr)
    (hw : swappedStores [.Tuple [.Name x px, .Name y py] kt pt] (.Tuple [a, b] k2 pt2) X.env = pure (some [x, y]) := by rfl)
    (h1 : starEach [a, b] X.env = (false, eval a X.env) :: starEach [b] X.env := by rfl) (h2 : starEach [b] X.env = (false, eval b X.env) :: starEach [] X.env := by rfl)
    (hs : swapsWithSole [.Tuple [.Name x px, .Name y py] kt pt] (.Tuple [a, b] k2 pt2) pos.line X.env = pure false := by rfl) :
    DS X (.Assign [.Tuple [.Name x px, .Name y py] kt pt] (.Tuple [a, b] k2 pt2) pos) (sPar i j fq fr) := by
  obtain ⟨ta, pa, qa⟩ := ha
  obtain ⟨tb, pb, qb⟩ := hb
  refine ⟨_, ps_par O.calm O.nd hi hj hij hx hy (pa_cons pa (pa_cons pb pa_nil h2) h1) hw hs, fun δ F own G H ρ γ σ o E R e k => ?_⟩
  obtain ⟨⟨s, ρ1, γ1⟩, e1, e⟩ := bind_some e
  obtain ⟨⟨t, ρ2, γ2⟩, e2, e⟩ := map_some e
  cases e
  refine qa δ F own G H ρ γ σ s _ _ _ R e1 fun v G1 H1 R1 s1 r1 => ?_
  refine qb δ (holdF F v H1 s) own G1 H1 _ _ σ t _ _ _ (R1.hold r1) e2 fun w G2 H2 R2 s2 r2 => ?_
  obtain ⟨R3, r3⟩ := Rel.unhold R1.g0 r1 s2 R2
  have r4 : SlV X.K δ F own ρ2 G2 H2 w t ∧ ∀ xs ys p q, s = .ol xs → t = .ol ys → v = .ref p → w = .ref q → p ≠ q := by
    cases s with
    | un => exact r1.elim
    | bx n => exact r1.elim
    | d x => exact ⟨r2, fun xs ys p q z => nomatch z⟩
    | ol xs =>
      obtain ⟨p, vs, ev, f, hp, hs⟩ := r1
      subst ev
      cases t with
      | un => exact r2.elim
      | bx n => exact r2.elim
      | d x => exact ⟨r2, fun xs ys p q _ z => nomatch z⟩
      | ol ys =>
        obtain ⟨q, ws, ew, f', hq, hs'⟩ := r2
        subst ew
        have f2 : (if q = p then H1 p else F.H q) = none := f'.f
        have nq : q ≠ p := fun z => by rw [if_pos z, hp] at f2; cases f2
        rw [if_neg nq] at f2
        refine ⟨⟨q, ws, rfl, ⟨f'.g, f'.d, f2, f'.o⟩, hq, hs'⟩, fun xs ys p' q' _ _ z1 z2 => ?_⟩
        cases z1
        cases z2
        exact nq.symm
  obtain ⟨own', R4⟩ := R3.setV2 i j r3 r4.1 r4.2
  exact ⟨v, w, rfl, k own' G2 H2 _ R4 (s1.trans s2)⟩
end
end DL

namespace DL
open PySem PySem.Spec PyProof.Rows L2

/-- what the list in slot i holds -/
def ctO (i : Nat) (ρ : Row) (γ : Bxs) : Option (List D) := match ρ[i]? with
  | some (.ol xs) => some xs
  | some (.bx n) => γ[n]?
  | _ => none
/-- .. when it is written -/
def putO (i : Nat) (ρ : Row) (γ : Bxs) (ds : List D) : Row × Bxs := match ρ[i]? with
  | some (.ol _) => (ρ.set i (.ol ds), γ)
  | some (.bx n) => (ρ, γ.set n ds)
  | _ => (ρ, γ)
section
variable {K : Fg} {δ : List Addr} {F : Fm} {own : Nat → Addr} {G H : Hp} {ρ : Row} {γ : Bxs} {σ : L2.St}
theorem Rel.atO (r : Rel K δ F own G H ρ γ σ) {i : Nat} {xs : List D} (h : ctO i ρ γ = some xs) : ∃ a vs, σ[i]? = some (some (.ref a)) ∧ H a = some (.lst vs) ∧ Reps K G vs xs := by
  unfold ctO at h
  split at h
  · rename_i ys hi
    cases h
    obtain ⟨h1, vs, h2, h3⟩ := r.slot i _ hi
    exact ⟨_, vs, h1, h2, h3⟩
  · rename_i n hi
    obtain ⟨b, h1, h2⟩ := r.slot i _ hi
    obtain ⟨a, vs, h3, h4, h5⟩ := r.wd.cell n xs h
    rw [h1] at h3; cases h3
    exact ⟨b, vs, h2, h4, h5⟩
  · cases h
theorem nd_get {l : List Addr} (hn : l.Nodup) {i j : Nat} {a : Addr} (h1 : l[i]? = some a) (h2 : l[j]? = some a) : i = j := nodup_ix' hn h1 h2
where
  nodup_ix' {l : List Addr} (hn : l.Nodup) {i j : Nat} {a : Addr} (h1 : l[i]? = some a) (h2 : l[j]? = some a) : i = j := nd_ix hn h1 h2
theorem Rel.putO (r : Rel K δ F own G H ρ γ σ) {i : Nat} {xs ds : List D} {a : Addr} {vs : List V} (h : ctO i ρ γ = some xs) (ha : σ[i]? = some (some (.ref a))) (hr : Reps K G vs ds) :
    Rel K δ F own G (upd H a (.lst vs)) (DL.putO i ρ γ ds).1 (DL.putO i ρ γ ds).2 σ := by
  unfold ctO at h
  unfold DL.putO
  split at h
  · rename_i ys hi
    try rw [hi]
    have q := (r.slot i _ hi).1
    rw [ha] at q; cases q
    exact r.write hi hr
  · rename_i n hi
    try rw [hi]
    obtain ⟨b, h1, h2⟩ := r.slot i _ hi
    rw [ha] at h2; cases h2
    have hd : a ∈ δ := List.mem_of_getElem? h1
    have hl : n < γ.length := (List.getElem?_eq_some_iff.mp h).1
    refine ⟨⟨fun b u e => ?_, by show δ.length = (γ.set n ds).length; rw [List.length_set]; exact r.wd.len, r.wd.nd, r.wd.out, fun m c hc => ?_⟩, r.g0, r.q0, fun b o z1 z2 z3 => ?_, r.len, fun j s hj => ?_, r.ownd, r.inj⟩
    · have hb : b ≠ a := fun z => by rw [z, r.wd.out a hd] at e; cases e
      rw [upd_ne hb]; exact r.sub _ _ e
    · by_cases e : n = m
      · subst e
        have hc : (γ.set n ds)[n]? = some c := hc
        rw [get_set_eq hl] at hc
        cases hc
        exact ⟨a, vs, h1, upd_same, hr⟩
      · have hc : (γ.set n ds)[m]? = some c := hc
        rw [get_set_ne e] at hc
        obtain ⟨a', ws, p1, p2, p3⟩ := r.wd.cell m c hc
        refine ⟨a', ws, p1, ?_, p3⟩
        have hb : a' ≠ a := fun z => e (nd_get r.wd.nd h1 (z ▸ p1))
        rw [upd_ne hb]; exact p2
    · have hb : b ≠ a := fun z => z3 (z ▸ hd)
      rw [upd_ne hb]; exact r.h0 b o z1 z2 z3
    · have q := r.slot j s hj
      cases s with
      | un => trivial
      | d x => exact q
      | bx n => exact q
      | ol ys =>
        obtain ⟨q1, ws, q2, q3⟩ := q
        refine ⟨q1, ws, ?_, q3⟩
        have hb : own j ≠ a := fun z => (r.ownd j ys hj).2.1 (z ▸ hd)
        rw [upd_ne hb]; exact q2
  · cases h
end

def intOf : D → Option Int
  | .int i => some i
  | _ => none
theorem intOf_some : ∀ {d : D} {i : Int}, intOf d = some i → d = .int i
  | .int _, _, h => by cases h; rfl
def fLenO (i : Nat) : Fx := fun ρ γ => (ctO i ρ γ).map fun xs => (.int xs.length, ρ, γ)
def fIxO (i : Nat) (fb : Fx) : Fx := fun ρ γ => (ctO i ρ γ).bind fun _ => (fb ρ γ).bind fun p => (ctO i p.2.1 p.2.2).bind fun xs => (ixD (.list xs) p.1).map fun z => (z, p.2)
def sApp (i : Nat) (fa : Fx) : Fst := fun ρ γ => (ctO i ρ γ).bind fun _ => (fa ρ γ).bind fun p => (ctO i p.2.1 p.2.2).bind fun xs => if xs.length < sizeLine then some (.nx (putO i p.2.1 p.2.2 (xs ++ [p.1])).1 (putO i p.2.1 p.2.2 (xs ++ [p.1])).2) else none
def sSetO (i : Nat) (fa fk : Fx) : Fst := fun ρ γ => (fa ρ γ).bind fun p => (ctO i p.2.1 p.2.2).bind fun _ => (fk p.2.1 p.2.2).bind fun q => (ctO i q.2.1 q.2.2).bind fun xs => (intOf q.1).bind fun k =>
  (ixN xs.length k).map fun j => .nx (putO i q.2.1 q.2.2 (xs.set j p.1)).1 (putO i q.2.1 q.2.2 (xs.set j p.1)).2
def fPop (i : Nat) : Fx := fun ρ γ => (ctO i ρ γ).bind fun xs => (xs[xs.length - 1]?).map fun d => (d, putO i ρ γ xs.dropLast)
def fPopAt (i : Nat) (fk : Fx) : Fx := fun ρ γ => (ctO i ρ γ).bind fun _ => (fk ρ γ).bind fun q => (ctO i q.2.1 q.2.2).bind fun xs => (intOf q.1).bind fun k =>
  if inB 9223372036854775808 k = true then (ixN xs.length k).bind fun j => (xs[j]?).map fun d => (d, putO i q.2.1 q.2.2 (xs.eraseIdx j)) else none
def fTruO (i : Nat) : Ft := fun ρ γ => (ctO i ρ γ).map fun xs => (!xs.isEmpty, ρ, γ)

section
variable {X : Cx} {e b : Expr} {fa fb : Fx} {i : Nat} {x : Str} {pos p pb apos cpos : Pos}
theorem tvar_of {σ : L2.St} {H : Hp} {Q : VK} {v : V} (h : σ[i]? = some (some v)) (q : Q v H) : tVar i σ H Q := ⟨v, h, q⟩
theorem de_lenO (hv : PE X (.Name x p) (tVar i)) (hg : Gl X "len") (hm : X.mg "len" = none) (he : starEach [.Name x p] X.env = (false, eval (.Name x p) X.env) :: starEach [] X.env := by rfl) (hpl : (backTo pos (starEach [] X.env)).any (·.1) = false := by rfl) : DE X (.Call (.Name "len" pb) [.Name x p] [] pos) (fLenO i) := by
  refine ⟨_, pe_callB call_len hg hm PySem.boot_len (pa_cons hv pa_nil he) (by decide) (by decide) he hpl, fun δ F own G H ρ γ σ d ρ' γ' Q R e k => ?_⟩
  obtain ⟨xs, e1, e⟩ := map_some e
  cases e
  obtain ⟨a, vs, h1, h2, h3⟩ := R.atO e1
  refine tvar_of h1 ⟨_, _, rfl, Or.inl ⟨vs, SqL.of h2, h3.length.symm⟩, k _ G H R (Same.refl _) (.int _)⟩
theorem same_at {σ : L2.St} {a a' : Addr} (h : σ[i]? = some (some (V.ref a))) (h' : σ[i]? = some (some (V.ref a'))) : a' = a := by
  rw [h] at h'; cases h'; rfl
theorem de_ixO (hv : PE X (.Name x p) (tVar i)) (hb : DE X b fb) (hs : PlainIx b := by exact fun _ _ => rfl) : DE X (.Subscript (.Name x p) b pos) (fIxO i fb) := by
  obtain ⟨tb, pb, qb⟩ := hb
  refine ⟨_, pe_ix ix_list hv pb hs, fun δ F own G H ρ γ σ d ρ' γ' Q R e k => ?_⟩
  obtain ⟨zs, e0, e⟩ := bind_some e
  obtain ⟨⟨z, ρ1, γ1⟩, e1, e⟩ := bind_some e
  obtain ⟨xs, e2, e⟩ := bind_some e
  obtain ⟨w, e3, e⟩ := map_some e
  cases e
  obtain ⟨a, us, h1, _, _⟩ := R.atO e0
  refine tvar_of h1 (qb δ F own G H ρ γ σ z _ _ _ R e1 fun v G1 H1 R1 s1 r1 => ?_)
  obtain ⟨a', vs, h1', h2, h3⟩ := R1.atO e2
  cases same_at h1 h1'
  cases z <;> simp only [ixD, reduceCtorEq] at e3
  cases r1.int_inv
  obtain ⟨u, hu, ru⟩ := atI_of h3 e3
  exact ⟨_, vs, _, u, rfl, rfl, SqL.of h2, hu, k u G1 H1 R1 s1 ru⟩
theorem tyV_list {K : Fg} {H : Hp} {a : Addr} {vs : List V} (h : H a = some (.lst vs)) : tyV K "list" (.ref a) H := Or.inl ⟨rfl, vs, SqL.of h⟩
theorem ds_app (hv : PE X (.Name x p) (tVar i)) (ha : DE X e fa) (hbase : attributeBase (.Name x p) "append" X.env (eval (.Name x p) X.env) = eval (.Name x p) X.env := by rfl)
    (hfew : ((backTo cpos (starEach [e] X.env)).all (fun x => !x.1) && (backToKw cpos (keywordEach [] X.env)).all (fun x => x.1.isSome)
      && decide ([e].length + ([] : List Keyword).length + (if ([] : List Keyword).isEmpty then 0 else 1) < 30)) = true := by rfl)
    (hline : (apos.endLine == cpos.line) = true := by rfl) (hs : starEach [e] X.env = (false, eval e X.env) :: starEach [] X.env := by rfl) (hplain : (backTo cpos (starEach [] X.env)).any (·.1) = false := by rfl)
    (hsw : swapsWith (.Call (.Attribute (.Name x p) "append" apos) [e] [] cpos) none pos.line X.env = pure false := by rfl) :
    DS X (.Expr (.Call (.Attribute (.Name x p) "append" apos) [e] [] cpos) pos) (sApp i fa) := by
  obtain ⟨ta, pa, qa⟩ := ha
  refine ⟨_, ps_expr (pe_bm PySem.F.plainAttrs_list PySem.F.slot_list_append PySem.F.type_list_append mt_append hv (pa_cons pa pa_nil hs) hbase hfew hline hs hplain) hsw, fun δ F own G H ρ γ σ o E R e k => ?_⟩
  obtain ⟨zs, e0, e⟩ := bind_some e
  obtain ⟨⟨z, ρ1, γ1⟩, e1, e⟩ := bind_some e
  obtain ⟨xs, e2, e⟩ := bind_some e
  split at e
  · rename_i hz
    cases e
    obtain ⟨a, us, h1, h1', _⟩ := R.atO e0
    show tBM X.K "list" rAppend (tVar i) (tCons ta tNil) σ H (fun _ H1 => E.nx σ H1)
    refine tvar_of h1 ⟨tyV_list h1', ?_⟩
    refine qa δ F own G H ρ γ σ z _ _ _ R e1 fun v G1 H1 R1 s1 r1 => ?_
    obtain ⟨a', vs, h1', h2, h3⟩ := R1.atO e2
    cases same_at h1 h1'
    refine ⟨_, vs, v, rfl, rfl, h2, by rw [h3.length]; exact hz, ?_⟩
    exact k own G1 _ σ (R1.putO e2 h1 (h3.append (.cons r1 .nil))) s1
  · cases e
theorem ixN_len {xs : List D} {vs : List V} {K : Fg} {G : Hp} (h : Reps K G vs xs) (k : Int) : ixN vs.length k = ixN xs.length k := by rw [h.length]
theorem ds_setO {k : Expr} {fk : Fx} {spos : Pos} (hv : PE X (.Name x p) (tVar i)) (he : DE X e fa) (hk : DE X k fk)
    (hasg : ∀ v, assign (.Subscript (.Name x p) k spos) X.env v = (do
      let ov ← holding [v] (eval (.Name x p) X.env)
      let iv ← holding [v, ov] (eval k X.env)
      standAt spos
      holding [v, ov, iv] (setItem ov iv v)
      release [v, ov, iv] []) := by intro _; rfl)
    (hs : swapsWithSole [.Subscript (.Name x p) k spos] e pos.line X.env = pure false := by rfl) (hw : swappedStores [.Subscript (.Name x p) k spos] e X.env = pure none := by rfl)
    (h1 : (assignEach [.Subscript (.Name x p) k spos] X.env).map (·.2) = [assign (.Subscript (.Name x p) k spos) X.env] := by rfl) :
    DS X (.Assign [.Subscript (.Name x p) k spos] e pos) (sSetO i fa fk) := by
  obtain ⟨ta, pa, qa⟩ := he
  obtain ⟨tk, pk, qk⟩ := hk
  refine ⟨_, ps_asg pa (pg_sub hv pk set_list hasg) hs hw h1, fun δ F own G H ρ γ σ o E R e k => ?_⟩
  obtain ⟨⟨z, ρ1, γ1⟩, e1, e⟩ := bind_some e
  obtain ⟨zs, e0, e⟩ := bind_some e
  obtain ⟨⟨y, ρ2, γ2⟩, e2, e⟩ := bind_some e
  obtain ⟨xs, e3, e⟩ := bind_some e
  refine qa δ F own G H ρ γ σ z _ _ _ R e1 fun v G1 H1 R1 s1 r1 => ?_
  obtain ⟨a, us, h1, _, _⟩ := R1.atO e0
  refine tvar_of h1 (qk δ F own G1 H1 _ _ σ y _ _ _ R1 e2 fun w G2 H2 R2 s2 r2 => ?_)
  obtain ⟨kk, e5, e⟩ := bind_some e
  cases intOf_some e5
  obtain ⟨j, e4, e⟩ := map_some e
  cases e
  cases r2.int_inv
  obtain ⟨a', vs, h1', h2, h3⟩ := R2.atO e3
  cases same_at h1 h1'
  refine ⟨_, vs, kk, j, rfl, rfl, h2, by rw [ixN_len h3]; exact e4, ?_⟩
  exact k own G2 _ σ (R2.putO e3 h1 (h3.set (r1.mono s2) j)) (s1.trans s2)
theorem de_pop (hv : PE X (.Name x p) (tVar i)) (hbase : attributeBase (.Name x p) "pop" X.env (eval (.Name x p) X.env) = eval (.Name x p) X.env := by rfl) (hline : (apos.endLine == cpos.line) = true := by rfl) :
    DE X (.Call (.Attribute (.Name x p) "pop" apos) [] [] cpos) (fPop i) := by
  refine ⟨_, pe_bm0 PySem.F.plainAttrs_list PySem.F.slot_list_pop PySem.F.type_list_pop mt_pop hv hbase hline, fun δ F own G H ρ γ σ d ρ' γ' Q R e k => ?_⟩
  obtain ⟨xs, e1, e⟩ := bind_some e
  obtain ⟨y, e2, e⟩ := map_some e
  obtain ⟨a, vs, h1, h2, h3⟩ := R.atO e1
  obtain ⟨u, hu, ru⟩ := h3.get e2
  rw [← h3.length] at hu
  have R2 := R.putO e1 h1 h3.dropLast
  have e9 := (Prod.mk.inj e).2
  have e8 := (Prod.mk.inj e).1
  subst e8
  try dsimp only at e9
  rw [e9] at R2
  exact tvar_of h1 ⟨tyV_list h2, _, vs, u, rfl, rfl, h2, hu, k u G _ R2 (Same.refl _) ru⟩
theorem de_popAt {kx : Expr} {fk : Fx} (hv : PE X (.Name x p) (tVar i)) (ha : DE X kx fk) (hbase : attributeBase (.Name x p) "pop" X.env (eval (.Name x p) X.env) = eval (.Name x p) X.env := by rfl)
    (hfew : ((backTo cpos (starEach [kx] X.env)).all (fun x => !x.1) && (backToKw cpos (keywordEach [] X.env)).all (fun x => x.1.isSome)
      && decide ([kx].length + ([] : List Keyword).length + (if ([] : List Keyword).isEmpty then 0 else 1) < 30)) = true := by rfl)
    (hline : (apos.endLine == cpos.line) = true := by rfl) (hs : starEach [kx] X.env = (false, eval kx X.env) :: starEach [] X.env := by rfl) (hplain : (backTo cpos (starEach [] X.env)).any (·.1) = false := by rfl) :
    DE X (.Call (.Attribute (.Name x p) "pop" apos) [kx] [] cpos) (fPopAt i fk) := by
  obtain ⟨ta, pa, qa⟩ := ha
  refine ⟨_, pe_bm PySem.F.plainAttrs_list PySem.F.slot_list_pop PySem.F.type_list_pop mt_popAt hv (pa_cons pa pa_nil hs) hbase hfew hline hs hplain, fun δ F own G H ρ γ σ d ρ' γ' Q R e k => ?_⟩
  obtain ⟨zs, e0, e⟩ := bind_some e
  obtain ⟨⟨z, ρ1, γ1⟩, e1, e⟩ := bind_some e
  obtain ⟨xs, e2, e⟩ := bind_some e
  obtain ⟨a, us, h1, h1', _⟩ := R.atO e0
  refine tvar_of h1 ⟨tyV_list h1', qa δ F own G H ρ γ σ z _ _ _ R e1 fun v G1 H1 R1 s1 r1 => ?_⟩
  obtain ⟨kk, e5, e⟩ := bind_some e
  cases intOf_some e5
  split at e
  case isFalse => cases e
  rename_i hb
  have hb := inB63 hb
  obtain ⟨j, e3, e⟩ := bind_some e
  obtain ⟨y, e4, e⟩ := map_some e
  cases r1.int_inv
  obtain ⟨a', vs, h1', h2, h3⟩ := R1.atO e2
  cases same_at h1 h1'
  obtain ⟨u, hu, ru⟩ := h3.get e4
  obtain ⟨q1, q2, q3, q4⟩ := ixN_seq e3
  have R2 := R1.putO e2 h1 (h3.erase j)
  have e9 := (Prod.mk.inj e).2
  have e8 := (Prod.mk.inj e).1
  subst e8
  try dsimp only at e9
  rw [e9] at R2
  refine ⟨_, vs, kk, j, u, rfl, rfl, h2, hb.1, hb.2, ?_, hu, k u G1 _ R2 s1 ru⟩
  · rw [h3.length]; exact q1
theorem dt_truO (hv : PE X (.Name x p) (tVar i)) (he : ∀ whole, isTrue (.Name x p) X.env whole = (do let v ← whole; standAt (PySem.Expr.Name x p).pos; holding [v] (truthy v)) := by intro _; rfl) : DT X (.Name x p) (fTruO i) := by
  refine ⟨_, pt_truth hv he, fun δ F own G H ρ γ σ d ρ' γ' Q R e k => ?_⟩
  obtain ⟨xs, e1, e⟩ := map_some e
  cases e
  obtain ⟨a, vs, h1, h2, h3⟩ := R.atO e1
  refine tvar_of h1 ⟨_, Or.inl ⟨vs, SqL.of h2, ?_⟩, k G H R (Same.refl _)⟩
  cases h3 <;> rfl
end
end DL

namespace DL
open PySem PySem.Spec PyProof.Rows L2

abbrev Fg1 := D → Row → Option Row
def DG (X : Cx) (tg : Expr) (ts : List Nat) (g : Fg1) : Prop := ∃ t, PG X tg t ∧ ∀ (δ : List Addr) (F : Fm) (own : Nat → Addr) (G H : Hp) (ρ : Row) (γ : Bxs) (σ : L2.St) (v : V) (d : D) (ρ' : Row) (Q : L2.St → Hp → Prop),
  Rel X.K δ F own G H ρ γ σ → Rep X.K G v d → g d ρ = some ρ' → (∀ σ', Rel X.K δ F own G H ρ' γ σ' → (∀ vs : List Nat, (∀ i ∈ ts, i ∈ vs) → wipe σ' vs = wipe σ vs) → Q σ' H) → t v σ H Q
def DGs (X : Cx) (tg : List Expr) (ts : List Nat) (g : List D → Row → Option Row) : Prop := ∃ t, PGs X tg t ∧ ∀ (δ : List Addr) (F : Fm) (own : Nat → Addr) (G H : Hp) (ρ : Row) (γ : Bxs) (σ : L2.St) (v : List V) (d : List D) (ρ' : Row) (Q : L2.St → Hp → Prop),
  Rel X.K δ F own G H ρ γ σ → Reps X.K G v d → g d ρ = some ρ' → (∀ σ', Rel X.K δ F own G H ρ' γ σ' → (∀ vs : List Nat, (∀ i ∈ ts, i ∈ vs) → wipe σ' vs = wipe σ vs) → Q σ' H) → t v σ H Q
def gN (i : Nat) : Fg1 := fun d ρ => some (ρ.set i (.d d))
def gsN : List D → Row → Option Row := fun ds ρ => match ds with
  | [] => some ρ
  | _ => none
def gsC (g : Fg1) (gs : List D → Row → Option Row) : List D → Row → Option Row := fun ds ρ => match ds with
  | d :: r => (g d ρ).bind (gs r)
  | [] => none
def gT (n : Nat) (gs : List D → Row → Option Row) : Fg1 := fun d ρ => match d with
  | .tuple ds => if ds.length = n then gs ds ρ else none
  | .list ds => if ds.length = n then gs ds ρ else none
  | _ => none
theorem wipe_set {σ : L2.St} {i : Nat} {o : Option V} : ∀ {vs : List Nat}, i ∈ vs → wipe (σ.set i o) vs = wipe σ vs
  | [], h => by simp at h
  | v :: vs, h => by
    unfold wipe
    by_cases e : i ∈ vs
    · rw [wipe_set e]
    · have e' : i = v := by
        rcases List.mem_cons.mp h with z | z
        · exact z
        · exact absurd z e
      subst e'
      have : ∀ (l : List Nat) (s : L2.St) (o : Option V), i ∉ l → wipe (s.set i o) l = (wipe s l).set i o := by
        intro l
        induction l with
        | nil => intro s o _; rfl
        | cons a r ih =>
          intro s o hn
          simp only [List.mem_cons, not_or] at hn
          unfold wipe
          rw [ih s o hn.2, List.set_comm _ _ hn.1]
      rw [this vs σ o e]
      rw [List.set_set]
section
variable {X : Cx} {x : Str} {pos : Pos}
theorem dg_name {i : Nat} (O : Okc X) (hi : X.N[i]? = some x) (hx : Loc X.env.scope x) (hf : X.fn x = true ∨ X.env.scope.names.lookup x = some .local := by first | exact .inl rfl | exact .inr rfl | assumption) : DG X (.Name x pos) [i] (gN i) :=
  ⟨_, pg_name O.nd hi hx hf, fun δ F own G H ρ γ σ v d ρ' Q R r e k => by
    cases e
    exact k _ (R.setD r) fun vs hv => wipe_set (hv i List.mem_cons_self)⟩
theorem dgs_nil : DGs X [] [] gsN := ⟨_, pgs_nil, fun δ F own G H ρ γ σ v d ρ' Q R r e k => by
  cases d with
  | nil => cases r; cases e; exact ⟨rfl, k σ R fun _ _ => rfl⟩
  | cons a b => cases e⟩
theorem dgs_cons {e : Expr} {es : List Expr} {t1 t2 : List Nat} {g : Fg1} {gs : List D → Row → Option Row} (h1 : DG X e t1 g) (h2 : DGs X es t2 gs) (hs : (assignEach (e :: es) X.env).map (·.2) = assign e X.env :: (assignEach es X.env).map (·.2) := by rfl) : DGs X (e :: es) (t1 ++ t2) (gsC g gs) := by
  obtain ⟨ta, pa, qa⟩ := h1
  obtain ⟨tb, pb, qb⟩ := h2
  refine ⟨_, pgs_cons pa pb hs, fun δ F own G H ρ γ σ v d ρ' Q R r e k => ?_⟩
  cases d with
  | nil => cases e
  | cons a b =>
    cases r with
    | cons r1 r2 =>
      obtain ⟨ρ1, e1, e2⟩ := bind_some e
      refine ⟨_, _, rfl, qa δ F own G H ρ γ σ _ a ρ1 _ R r1 e1 fun σ1 R1 w1 => qb δ F own G H ρ1 γ σ1 _ b ρ' _ R1 r2 e2 fun σ2 R2 w2 => k σ2 R2 fun vs hv => ?_⟩
      rw [w2 vs fun i hi => hv i (List.mem_append_right _ hi), w1 vs fun i hi => hv i (List.mem_append_left _ hi)]
theorem pg_or {e : Expr} {t u : TG} (h1 : PG X e t) (h2 : PG X e u) : PG X e (fun v σ H Q => t v σ H Q ∨ u v σ H Q) :=
  ⟨fun pins s σ H v w Q I r h => h.elim (h1.run pins s σ H v w Q I r) (h2.run pins s σ H v w Q I r)⟩
theorem dg_tup {es : List Expr} {kk n : Nat} {ts : List Nat} {gs : List D → Row → Option Row} (O : Okc X) (h : DGs X es ts gs) (hn : (assignEach es X.env).length = n := by rfl) (hst : (assignEach es X.env).findIdx? (·.1) = none := by rfl) : DG X (.Tuple es kk pos) ts (gT n gs) := by
  obtain ⟨ta, pa, qa⟩ := h
  refine ⟨_, pg_or (pg_tup O.calm pa hn hst) (pg_unl O.calm pa hn hst), fun δ F own G H ρ γ σ v d ρ' Q R r e k => ?_⟩
  cases d with
  | tuple ds =>
    simp only [gT] at e
    split at e
    · rename_i hl
      obtain ⟨a, vs, rfl, hq, hs⟩ := r.tup_inv
      exact Or.inl ⟨a, vs, rfl, sqt_same R.sub hq, by rw [hs.length]; exact hl, qa δ F own G H ρ γ σ vs _ ρ' _ R hs e k⟩
    · cases e
  | list ds =>
    simp only [gT] at e
    split at e
    · rename_i hl
      obtain ⟨a, vs, rfl, hq, hs⟩ := r.lst_inv
      exact Or.inr ⟨a, vs, rfl, R.sub.seq hq, by rw [hs.length]; exact hl, qa δ F own G H ρ γ σ vs _ ρ' _ R hs e k⟩
    · cases e
  | _ => simp [gT] at e
end

structure ItOk (K : Fg) (G1 : Hp) (J : It) (ds : List D) : Prop where
  go : ∀ (G H : Hp), Same G1 G → Same G H → ∀ (i : Nat) (d : D), ds[i]? = some d → J.go i H ∧ ∀ x H', J.yld i H x H' → ∃ G', Step G H G' H' ∧ Rep K G' x d
  stop : ∀ (G H : Hp), Same G1 G → Same G H → J.stop ds.length H
def DI (X : Cx) (tg iter : Expr) (f : Fs) : Prop := ∃ wi, PI X tg iter wi ∧ ∀ (δ : List Addr) (F : Fm) (own : Nat → Addr) (G H : Hp) (ρ : Row) (γ : Bxs) (σ : L2.St) (ds : List D) (ρ' : Row) (γ' : Bxs) (R : It → Hp → Prop),
  Rel X.K δ F own G H ρ γ σ → f ρ γ = some (ds, ρ', γ') → (∀ J G' H', Rel X.K δ F own G' H' ρ' γ' σ → Same G G' → ItOk X.K G' J ds → R J H') → wi σ H R
/-- the items of data -/
def itemsD : D → Option (List D)
  | .list xs => some xs
  | .tuple xs => some xs
  | .str x => some (x.cps.toList.map fun c => .str (S [c]))
  | _ => none
def iE (fa : Fx) : Fs := fun ρ γ => (fa ρ γ).bind fun p => (itemsD p.1).map fun z => (z, p.2)
def range1D : List D → Option (List D)
  | [.int n] => if inB 4611686018427387904 n = true then some ((List.range n.toNat).map fun i => .int (i : Nat)) else none
  | _ => none
def range2D : List D → Option (List D)
  | [.int a, .int b] => if inB 4611686018427387904 a = true ∧ inB 4611686018427387904 b = true then some ((List.range (b - a).toNat).map fun i => .int (a + (i : Nat))) else none
  | _ => none
def iR (g : List D → Option (List D)) (fa : Fs) : Fs := fun ρ γ => (fa ρ γ).bind fun p => (g p.1).map fun z => (z, p.2)
section
variable {X : Cx} {tg e a b : Expr} {es : List Expr} {fa fb : Fx} {fs : Fs} {pos p : Pos}
theorem pi_or {w1 w2 : TI} (h1 : PI X tg e w1) (h2 : PI X tg e w2) : PI X tg e (fun σ H R => w1 σ H R ∨ w2 σ H R) :=
  ⟨fun pins s σ H R I h => h.elim (h1.run pins s σ H R I) (h2.run pins s σ H R I)⟩
theorem it_list {K : Fg} {G1 : Hp} {a : Addr} {vs : List V} {ds : List D} (h : SqL K G1 a vs) (hs : Reps K G1 vs ds) (uniq : ∀ (H : Hp) (xs : List V), Same G1 H → SqL K H a xs → xs = vs) : ItOk K G1 (Itl K a) ds := by
  refine ⟨fun G H s1 s2 i d hd => ?_, fun G H s1 s2 => ⟨vs, (s1.trans s2).seq h, by rw [hs.length]; exact Nat.le_refl _⟩⟩
  obtain ⟨v, hv, r⟩ := hs.get hd
  refine ⟨⟨vs, v, (s1.trans s2).seq h, hv⟩, fun x H' ⟨eh, y⟩ => ?_⟩
  subst eh
  have := y vs ((s1.trans s2).seq h)
  rw [hv] at this; cases this
  exact ⟨G, Step.refl s2, r.mono s1⟩
theorem it_list' {K : Fg} {G1 : Hp} {a : Addr} {vs : List V} {ds : List D} (h : SqL K G1 a vs) (hs : Reps K G1 vs ds) : ItOk K G1 (Itl K a) ds := by
  refine ⟨fun G H s1 s2 i d hd => ?_, fun G H s1 s2 => ⟨vs, (s1.trans s2).seq h, by rw [hs.length]; exact Nat.le_refl _⟩⟩
  obtain ⟨v, hv, r⟩ := hs.get hd
  refine ⟨⟨vs, v, (s1.trans s2).seq h, hv⟩, fun x H' ⟨eh, y⟩ => ?_⟩
  subst eh
  have := y vs ((s1.trans s2).seq h)
  rw [hv] at this; cases this
  exact ⟨G, Step.refl s2, r.mono s1⟩
theorem it_tup {K : Fg} {G1 : Hp} {a : Addr} {vs : List V} {ds : List D} (h : SqT K G1 a vs) (hs : Reps K G1 vs ds) : ItOk K G1 (Itt K a) ds := by
  refine ⟨fun G H s1 s2 i d hd => ?_, fun G H s1 s2 => ⟨vs, sqt_same (s1.trans s2) h, by rw [hs.length]; exact Nat.le_refl _⟩⟩
  obtain ⟨v, hv, r⟩ := hs.get hd
  refine ⟨⟨vs, v, sqt_same (s1.trans s2) h, hv⟩, fun x H' ⟨eh, y⟩ => ?_⟩
  subst eh
  have := y vs (sqt_same (s1.trans s2) h)
  rw [hv] at this; cases this
  exact ⟨G, Step.refl s2, r.mono s1⟩
theorem it_range {K : Fg} {G1 : Hp} (lo : Int) (n : Nat) : ItOk K G1 (Itr lo n) ((List.range n).map fun i => .int (lo + (i : Nat))) := by
  refine ⟨fun G H s1 s2 i d hd => ?_, fun G H s1 s2 => ?_⟩
  · rw [List.getElem?_map] at hd
    obtain ⟨j, hj, rfl⟩ := map_some hd
    obtain ⟨hl, hj⟩ := List.getElem?_eq_some_iff.mp hj
    rw [List.getElem_range] at hj
    subst hj
    refine ⟨by rw [List.length_range] at hl; exact hl, fun x H' ⟨eh, ex⟩ => ?_⟩
    subst eh
    subst ex
    exact ⟨G, Step.refl s2, .int _⟩
  · show n ≤ _
    rw [List.length_map, List.length_range]
    exact Nat.le_refl _
theorem it_str {K : Fg} {G1 : Hp} (x : Str) : ItOk K G1 (Its x) (x.cps.toList.map fun c => .str (S [c])) := by
  refine ⟨fun G H s1 s2 i d hd => ?_, fun G H s1 s2 => ?_⟩
  · rw [List.getElem?_map] at hd
    obtain ⟨c, hc, rfl⟩ := map_some hd
    have hl : i < x.cps.size := by
      have := (List.getElem?_eq_some_iff.mp hc).1
      simpa using this
    refine ⟨hl, fun v H' ⟨eh, c', hc', ev⟩ => ?_⟩
    subst eh
    subst ev
    have : x.cps[i]? = some c := by simpa using hc
    rw [this] at hc'; cases hc'
    exact ⟨G, Step.refl s2, .str _⟩
  · show x.cps.size ≤ _
    simp
theorem di_e (ha : DE X a fa) : DI X tg a (iE fa) := by
  obtain ⟨t, p, q⟩ := ha
  refine ⟨_, pi_or (pi_list p) (pi_or (pi_tup p) (pi_str p)), fun δ F own G H ρ γ σ ds ρ' γ' R r e k => ?_⟩
  obtain ⟨⟨x, ρ1, γ1⟩, e1, e⟩ := bind_some e
  obtain ⟨z, e2, e⟩ := map_some e
  cases e
  cases x with
  | list xs =>
    cases e2
    refine Or.inl (q δ F own G H ρ γ σ _ _ _ _ r e1 fun v G1 H1 R1 s1 r1 => ?_)
    obtain ⟨l, vs, rfl, hq, hs⟩ := r1.lst_inv
    exact ⟨l, rfl, ⟨vs, R1.sub.seq hq⟩, k _ G1 H1 R1 s1 (it_list' hq hs)⟩
  | tuple xs =>
    cases e2
    refine Or.inr (Or.inl (q δ F own G H ρ γ σ _ _ _ _ r e1 fun v G1 H1 R1 s1 r1 => ?_))
    obtain ⟨l, vs, rfl, hq, hs⟩ := r1.tup_inv
    exact ⟨l, rfl, ⟨vs, sqt_same R1.sub hq⟩, k _ G1 H1 R1 s1 (it_tup hq hs)⟩
  | str y =>
    cases e2
    refine Or.inr (Or.inr (q δ F own G H ρ γ σ _ _ _ _ r e1 fun v G1 H1 R1 s1 r1 => ?_))
    cases r1.str_inv
    exact ⟨y, rfl, k _ G1 H1 R1 s1 (it_str y)⟩
  | _ => cases e2
theorem di_range1 (hg : Gl X "range") (hm : X.mg "range" = none) (ha : DA X [a] fs) (hs : starEach [a] X.env = [(false, eval a X.env)] := by rfl) : DI X tg (.Call (.Name "range" p) [a] [] pos) (iR range1D fs) := by
  obtain ⟨t, pa, q⟩ := ha
  refine ⟨_, pi_range1 hg hm pa hs, fun δ F own G H ρ γ σ ds ρ' γ' R r e k => ?_⟩
  obtain ⟨⟨x, ρ1, γ1⟩, e1, e⟩ := bind_some e
  obtain ⟨z, e2, e⟩ := map_some e
  cases e
  refine q δ F own G H ρ γ σ _ _ _ _ r e1 fun v G1 H1 R1 s1 r1 => ?_
  match x, e2, r1 with
  | [.int n], e2, r1 =>
    simp only [range1D] at e2
    split at e2
    · rename_i hb
      have hb := inB62 hb
      cases e2
      obtain ⟨w, rfl, rw'⟩ := one_inv r1
      cases rw'.int_inv
      refine ⟨n, rfl, hb.1, hb.2, k _ G1 H1 R1 s1 ?_⟩
      have := it_range (K := X.K) (G1 := G1) 0 n.toNat
      simpa using this
    · cases e2
theorem di_range2 (hg : Gl X "range") (hm : X.mg "range" = none) (ha : DA X [a, b] fs) (hs : starEach [a, b] X.env = [(false, eval a X.env), (false, eval b X.env)] := by rfl) (hs2 : starEach [b] X.env = [(false, eval b X.env)] := by rfl) : DI X tg (.Call (.Name "range" p) [a, b] [] pos) (iR range2D fs) := by
  obtain ⟨t, pa, q⟩ := ha
  refine ⟨_, pi_range2 hg hm pa hs hs2, fun δ F own G H ρ γ σ ds ρ' γ' R r e k => ?_⟩
  obtain ⟨⟨x, ρ1, γ1⟩, e1, e⟩ := bind_some e
  obtain ⟨z, e2, e⟩ := map_some e
  cases e
  refine q δ F own G H ρ γ σ _ _ _ _ r e1 fun v G1 H1 R1 s1 r1 => ?_
  match x, e2, r1 with
  | [.int n, .int m], e2, r1 =>
    simp only [range2D] at e2
    split at e2
    · rename_i hb
      have hb : -(2 ^ 62) ≤ n ∧ n < 2 ^ 62 ∧ -(2 ^ 62) ≤ m ∧ m < 2 ^ 62 := ⟨(inB62 hb.1).1, (inB62 hb.1).2, (inB62 hb.2).1, (inB62 hb.2).2⟩
      cases e2
      obtain ⟨u, w, rfl, r2, r3⟩ := pair_inv r1
      cases r2.int_inv
      cases r3.int_inv
      exact ⟨n, m, rfl, hb, k _ G1 H1 R1 s1 (it_range n (m - n).toNat)⟩
    · cases e2
end

def forL (g : Fg1) (fb : Fst) : List D → Row → Bxs → Option Oc
  | [], ρ, γ => some (.nx ρ γ)
  | d :: ds, ρ, γ => (g d ρ).bind fun ρ1 => (fb ρ1 γ).bind fun o => match o with
    | .nx ρ2 γ2 => forL g fb ds ρ2 γ2
    | .ct ρ2 γ2 => forL g fb ds ρ2 γ2
    | .bk ρ2 γ2 => some (.nx ρ2 γ2)
    | .rt d γ2 => some (.rt d γ2)
def sFor (fi : Fs) (g : Fg1) (fb : Fst) : Fst := fun ρ γ => (fi ρ γ).bind fun p => forL g fb p.1 p.2.1 p.2.2
def whL (c : Ft) (fb : Fst) : Nat → Row → Bxs → Option Oc
  | 0, _, _ => none
  | n + 1, ρ, γ => (c ρ γ).bind fun p => if p.1 = true then (fb p.2.1 p.2.2).bind fun o => (match o with
    | .nx ρ2 γ2 => whL c fb n ρ2 γ2
    | .ct ρ2 γ2 => whL c fb n ρ2 γ2
    | .bk ρ2 γ2 => some (.nx ρ2 γ2)
    | .rt d γ2 => some (.rt d γ2)) else some (.nx p.2.1 p.2.2)
def sWh (fuel : Row → Bxs → Nat) (c : Ft) (fb : Fst) : Fst := fun ρ γ => whL c fb (fuel ρ γ) ρ γ
theorem drop_at {α : Type} {l : List α} {i : Nat} (h : i < l.length) : ∃ x, l[i]? = some x ∧ l.drop i = x :: l.drop (i + 1) :=
  ⟨l[i], by simp [h], List.drop_eq_getElem_cons h⟩
section
variable {X : Cx} {tg iter c : Expr} {body : List Stmt} {fi : Fs} {g : Fg1} {ts : List Nat} {fb : Fst} {ft : Ft} {pos : Pos}
theorem ds_for (O : Okc X) (hi : DI X tg iter fi) (hg : DG X tg ts g) (hb : DB X body fb) (hs : ∀ x, foldedSetIterable iter X.env x = pure x := by intro _; rfl) : DS X (.For tg iter body [] pos) (sFor fi g fb) := by
  obtain ⟨wi, pi, qi⟩ := hi
  obtain ⟨tg', pg, qg⟩ := hg
  obtain ⟨tb, pb, qb⟩ := hb
  refine ⟨_, ps_for O.pas O.calm pi pg pb hs, fun δ F own G H ρ γ σ o E R e k => ?_⟩
  obtain ⟨⟨ds, ρ1, γ1⟩, e1, e⟩ := bind_some e
  refine qi δ F own G H ρ γ σ ds _ _ _ R e1 fun J G1 H1 R1 s1 it => ?_
  have k1 := k.mono s1
  refine ⟨fun i m σ H => m = ds.length - i ∧ i ≤ ds.length ∧ ∃ own G ρ γ, Rel X.K δ F own G H ρ γ σ ∧ Same G1 G ∧ forL g fb (ds.drop i) ρ γ = some o, ⟨ds.length, by simp, Nat.zero_le _, own, G1, ρ1, γ1, R1, Same.refl _, e⟩, ?_⟩
  rintro i m σ2 H2 ⟨rfl, hi, own2, G2, ρ2, γ2, R2, s2, e2⟩
  by_cases hlt : i < ds.length
  · obtain ⟨d, hd, hdr⟩ := drop_at hlt
    rw [hdr] at e2
    obtain ⟨ρ3, e3, e2⟩ := bind_some e2
    obtain ⟨o3, e4, e5⟩ := bind_some e2
    obtain ⟨gn, gy⟩ := it.go G2 H2 s2 R2.sub i d hd
    refine Or.inr ⟨gn, fun σ' H' => ∃ own G ρ γ, Rel X.K δ F own G H' ρ γ σ' ∧ Same G1 G ∧ forL g fb (ds.drop (i + 1)) ρ γ = some o, fun σ' H' h => ⟨ds.length - (i + 1), by omega, rfl, hlt, h⟩, fun x H3 y => ?_⟩
    obtain ⟨G3, st, rx⟩ := gy x H3 y
    refine qg δ F own2 G3 H3 ρ2 γ2 σ2 x d ρ3 _ (R2.step st) rx e3 fun σ4 R4 _ => ?_
    refine qb δ F own2 G3 H3 ρ3 γ2 σ4 o3 _ R4 e4 ?_
    cases o3 with
    | nx ρ5 γ5 => exact fun own5 G5 H5 σ5 R5 s5 => ⟨own5, G5, ρ5, γ5, R5, (s2.trans st.sg).trans s5, e5⟩
    | ct ρ5 γ5 => exact fun own5 G5 H5 σ5 R5 s5 => ⟨own5, G5, ρ5, γ5, R5, (s2.trans st.sg).trans s5, e5⟩
    | bk ρ5 γ5 =>
      cases e5
      exact fun own5 G5 H5 σ5 R5 s5 => k1 own5 G5 H5 σ5 R5 ((s2.trans st.sg).trans s5)
    | rt d5 γ5 =>
      cases e5
      exact k1
  · have ei : i = ds.length := by omega
    subst ei
    rw [List.drop_length] at e2
    cases e2
    exact Or.inl ⟨it.stop G2 H2 s2 R2.sub, k1 own2 G2 H2 σ2 R2 s2⟩
theorem ds_wh (O : Okc X) (fuel : Row → Bxs → Nat) (hc : DT X c ft) (hb : DB X body fb) : DS X (.While c body [] pos) (sWh fuel ft fb) := by
  obtain ⟨tc, pc, qc⟩ := hc
  obtain ⟨tb, pb, qb⟩ := hb
  refine ⟨_, ps_while O.pas pc pb, fun δ F own G H ρ γ σ o E R e k => ?_⟩
  refine ⟨fun m σ H => ∃ own G1 ρ γ, Rel X.K δ F own G1 H ρ γ σ ∧ Same G G1 ∧ whL ft fb m ρ γ = some o, ⟨_, own, G, ρ, γ, R, Same.refl _, e⟩, ?_⟩
  rintro m σ2 H2 ⟨own2, G2, ρ2, γ2, R2, s2, e2⟩
  cases m with
  | zero => cases e2
  | succ n =>
    obtain ⟨⟨b, ρ3, γ3⟩, e3, e4⟩ := bind_some e2
    refine qc δ F own2 G2 H2 ρ2 γ2 σ2 b _ _ _ R2 e3 fun G3 H3 R3 s3 => ?_
    cases b with
    | false =>
      cases e4
      exact iteF (k own2 G3 H3 σ2 R3 (s2.trans s3))
    | true =>
      obtain ⟨o4, e5, e6⟩ := bind_some e4
      refine iteT ⟨fun σ' H' => ∃ own G1 ρ γ, Rel X.K δ F own G1 H' ρ γ σ' ∧ Same G G1 ∧ whL ft fb n ρ γ = some o, fun σ' H' h => ⟨n, Nat.lt_succ_self n, h⟩, ?_⟩
      refine qb δ F own2 G3 H3 _ _ σ2 o4 _ R3 e5 ?_
      cases o4 with
      | nx ρ5 γ5 => exact fun own5 G5 H5 σ5 R5 s5 => ⟨own5, G5, ρ5, γ5, R5, (s2.trans s3).trans s5, e6⟩
      | ct ρ5 γ5 => exact fun own5 G5 H5 σ5 R5 s5 => ⟨own5, G5, ρ5, γ5, R5, (s2.trans s3).trans s5, e6⟩
      | bk ρ5 γ5 =>
        cases e6
        exact fun own5 G5 H5 σ5 R5 s5 => k own5 G5 H5 σ5 R5 ((s2.trans s3).trans s5)
      | rt d5 γ5 =>
        cases e6
        exact k
end
end DL

namespace DL
open PySem PySem.Spec PyProof.Rows L2

/-- these slots are forgotten -/
def unS : List Nat → Row → Row
  | [], ρ => ρ
  | i :: is, ρ => (unS is ρ).set i .un
theorem unS_length : ∀ (vs : List Nat) (ρ : Row), (unS vs ρ).length = ρ.length
  | [], _ => rfl
  | i :: is, ρ => by unfold unS; rw [List.length_set, unS_length is ρ]
theorem unS_get {ρ : Row} {i : Nat} {s : Sl} : ∀ {vs : List Nat}, (unS vs ρ)[i]? = some s → s ≠ .un → ρ[i]? = some s ∧ i ∉ vs
  | [], h, _ => ⟨h, by simp⟩
  | v :: vs, h, hn => by
    unfold unS at h
    by_cases e : v = i
    · subst e
      by_cases hl : v < (unS vs ρ).length
      · rw [get_set_eq hl] at h; cases h; exact absurd rfl hn
      · rw [List.getElem?_eq_none (by simpa using hl)] at h; cases h
    · rw [get_set_ne e] at h
      obtain ⟨h1, h2⟩ := unS_get h hn
      exact ⟨h1, by simp only [List.mem_cons, not_or]; exact ⟨fun z => e z.symm, h2⟩⟩
theorem unS_at (ρ : Row) (i : Nat) : ∀ vs : List Nat, (unS vs ρ)[i]? = if i ∈ vs then ρ[i]?.map (fun _ => Sl.un) else ρ[i]?
  | [] => by simp [unS]
  | v :: vs => by
    unfold unS
    by_cases e : v = i
    · subst e
      rw [if_pos List.mem_cons_self]
      by_cases hl : v < ρ.length
      · rw [get_set_eq (by rw [unS_length]; exact hl)]; simp [hl]
      · have h1 : ρ[v]? = none := List.getElem?_eq_none (by omega)
        rw [h1, List.getElem?_eq_none (by rw [List.length_set, unS_length]; omega)]; rfl
    · rw [get_set_ne e, unS_at ρ i vs]
      have h2 : (i ∈ v :: vs) ↔ i ∈ vs := by simp only [List.mem_cons]; exact ⟨fun z => z.resolve_left (fun z2 => e z2.symm), Or.inr⟩
      simp only [h2]
theorem unS_unS (vs : List Nat) (ρ : Row) : unS vs (unS vs ρ) = unS vs ρ := by
  apply List.ext_getElem?
  intro i
  rw [unS_at (unS vs ρ), unS_at ρ]
  by_cases h : i ∈ vs
  · rw [if_pos h, if_pos h]; cases ρ[i]? <;> rfl
  · rw [if_neg h, if_neg h]
theorem wipe_at (σ : L2.St) (i : Nat) : ∀ vs : List Nat, (L2.wipe σ vs)[i]? = if i ∈ vs then σ[i]?.map (fun _ => none) else σ[i]?
  | [] => by simp [L2.wipe]
  | v :: vs => by
    unfold L2.wipe
    by_cases e : v = i
    · subst e
      rw [if_pos List.mem_cons_self]
      by_cases hl : v < σ.length
      · rw [get_set_eq (by rw [wipe_length]; exact hl)]; simp [hl]
      · have h1 : σ[v]? = none := List.getElem?_eq_none (by omega)
        rw [h1, List.getElem?_eq_none (by rw [List.length_set, wipe_length]; omega)]; rfl
    · rw [get_set_ne e, wipe_at σ i vs]
      have h2 : (i ∈ v :: vs) ↔ i ∈ vs := by simp only [List.mem_cons]; exact ⟨fun z => z.resolve_left (fun z2 => e z2.symm), Or.inr⟩
      simp only [h2]
theorem wipe_wipe (vs : List Nat) (σ : L2.St) : L2.wipe (L2.wipe σ vs) vs = L2.wipe σ vs := by
  apply List.ext_getElem?
  intro i
  rw [wipe_at (L2.wipe σ vs), wipe_at σ]
  by_cases h : i ∈ vs
  · rw [if_pos h, if_pos h]; cases σ[i]? <;> rfl
  · rw [if_neg h, if_neg h]
section
variable {K : Fg} {δ : List Addr} {F : Fm} {own : Nat → Addr} {G H : Hp} {ρ : Row} {γ : Bxs} {σ σ' : L2.St}
/-- other slots, where those agree that are still known -/
theorem Rel.forget (r : Rel K δ F own G H ρ γ σ) (vs : List Nat) (hl : σ'.length = σ.length) (h : ∀ i : Nat, i ∉ vs → σ'[i]? = σ[i]?) : Rel K δ F own G H (unS vs ρ) γ σ' := by
  refine ⟨r.wd, r.g0, r.q0, r.h0, by rw [unS_length, r.len, hl], fun i s hi => ?_, fun i xs hi => ?_, fun i j xs ys hi hj => ?_⟩
  · cases s with
    | un => trivial
    | d x =>
      obtain ⟨h1, h2⟩ := unS_get hi (fun z => nomatch z)
      rw [h i h2]; exact r.slot i _ h1
    | bx n =>
      obtain ⟨h1, h2⟩ := unS_get hi (fun z => nomatch z)
      rw [h i h2]; exact r.slot i _ h1
    | ol xs =>
      obtain ⟨h1, h2⟩ := unS_get hi (fun z => nomatch z)
      rw [h i h2]; exact r.slot i _ h1
  · exact r.ownd i xs (unS_get hi (fun z => nomatch z)).1
  · exact r.inj i j xs ys (unS_get hi (fun z => nomatch z)).1 (unS_get hj (fun z => nomatch z)).1
theorem wipe_get {σ : L2.St} {i : Nat} {vs : List Nat} (h : i ∉ vs) : (wipe σ vs)[i]? = σ[i]? := wipe_out h
theorem Rel.wipe (r : Rel K δ F own G H ρ γ σ) (vs : List Nat) : Rel K δ F own G H (unS vs ρ) γ (L2.wipe σ vs) :=
  r.forget vs (wipe_length σ vs) fun i hi => wipe_out hi
theorem Rel.unwipe (r : Rel K δ F own G H ρ γ σ') {vs : List Nat} (hl : σ'.length = σ.length) (h : L2.wipe σ' vs = L2.wipe σ vs) : Rel K δ F own G H (unS vs ρ) γ σ :=
  r.forget vs hl.symm fun i hi => by rw [← wipe_out (σ := σ) hi, ← h, wipe_out hi]
/-- a list that is nobody's is written -/
theorem Rel.updF (r : Rel K δ F own G H ρ γ σ) {p : Addr} {o : HO} (f : Free δ F own G ρ p) : Rel K δ F own G (upd H p o) ρ γ σ := by
  refine ⟨⟨fun b u e => ?_, r.wd.len, r.wd.nd, r.wd.out, fun n c hc => ?_⟩, r.g0, r.q0, fun b u h1 h2 h3 => ?_, r.len, fun j s hj => ?_, r.ownd, r.inj⟩
  · have hb : b ≠ p := fun z => by rw [z, f.g] at e; cases e
    rw [upd_ne hb]; exact r.sub _ _ e
  · obtain ⟨a, ws, h1, h2, h3⟩ := r.wd.cell n c hc
    have hb : a ≠ p := fun z => f.d (z ▸ List.mem_of_getElem? h1)
    exact ⟨a, ws, h1, by rw [upd_ne hb]; exact h2, h3⟩
  · have hb : b ≠ p := fun z => by rw [z, f.f] at h1; cases h1
    rw [upd_ne hb]; exact r.h0 b u h1 h2 h3
  · have q := r.slot j s hj
    cases s with
    | un => trivial
    | d x => exact q
    | bx n => exact q
    | ol ys =>
      obtain ⟨q1, ws, q2, q3⟩ := q
      exact ⟨q1, ws, by rw [upd_ne (f.o j ys hj)]; exact q2, q3⟩
end

/-- the turns: the items left, what is made so far -/
def lcL (vs : List Nat) (g : Fg1) (ft : Ft) (fe : Fx) : List D → List D → Row → Bxs → Option (List D × Row × Bxs)
  | [], acc, ρ, γ => some (acc, ρ, γ)
  | d :: ds, acc, ρ, γ => (g d ρ).bind fun ρ1 => (ft ρ1 γ).bind fun p => if p.1 = true then
      (fe p.2.1 p.2.2).bind fun q => if acc.length < sizeLine then lcL vs g ft fe ds (acc ++ [q.1]) (unS vs q.2.1) q.2.2 else none
    else lcL vs g ft fe ds acc (unS vs p.2.1) p.2.2
def qLc (fi : Fs) (vs : List Nat) (g : Fg1) (ft : Ft) (fe : Fx) : Fq := fun ρ γ => (fi ρ γ).bind fun p => (lcL vs g ft fe p.1 [] (unS vs p.2.1) p.2.2).map fun q => (.ol q.1, q.2)
def fYes : Ft := fun ρ γ => some (true, ρ, γ)
def QT (K : Fg) (t : TE) (f : Fq) : Prop := ∀ (δ : List Addr) (F : Fm) (own : Nat → Addr) (G H : Hp) (ρ : Row) (γ : Bxs) (σ : L2.St) (s : Sl) (ρ' : Row) (γ' : Bxs) (Q : VK),
  Rel K δ F own G H ρ γ σ → f ρ γ = some (s, ρ', γ') → (∀ v G' H', Rel K δ F own G' H' ρ' γ' σ → Same G G' → SlV K δ F own ρ' G' H' v s → Q v H') → t σ H Q
def DTs (X : Cx) (es : List Expr) (f : Ft) : Prop := ∃ t, PTs X es t ∧ ∀ (δ : List Addr) (F : Fm) (own : Nat → Addr) (G H : Hp) (ρ : Row) (γ : Bxs) (σ : L2.St) (d : Bool) (ρ' : Row) (γ' : Bxs) (Q : Bool → Hp → Prop),
  Rel X.K δ F own G H ρ γ σ → f ρ γ = some (d, ρ', γ') → (∀ G' H', Rel X.K δ F own G' H' ρ' γ' σ → Same G G' → Q d H') → t σ H Q
theorem dts_nil {X : Cx} : DTs X [] fYes := ⟨_, pts_nil, fun δ F own G H ρ γ σ d ρ' γ' Q R e k => by cases e; exact k G H R (Same.refl _)⟩
theorem dts_one {X : Cx} {c : Expr} {ft : Ft} (h : DT X c ft) : DTs X [c] ft := by
  obtain ⟨t, p, q⟩ := h
  exact ⟨t, pts_one p, q⟩

/-- the readings' own sides (no context in them) -/
def GR (K : Fg) (t : TG) (ts : List Nat) (g : Fg1) : Prop := ∀ (δ : List Addr) (F : Fm) (own : Nat → Addr) (G H : Hp) (ρ : Row) (γ : Bxs) (σ : L2.St) (v : V) (d : D) (ρ' : Row) (Q : L2.St → Hp → Prop),
  Rel K δ F own G H ρ γ σ → Rep K G v d → g d ρ = some ρ' → (∀ σ', Rel K δ F own G H ρ' γ σ' → (∀ vs : List Nat, (∀ i ∈ ts, i ∈ vs) → wipe σ' vs = wipe σ vs) → Q σ' H) → t v σ H Q
def TR (K : Fg) (t : TT) (f : Ft) : Prop := ∀ (δ : List Addr) (F : Fm) (own : Nat → Addr) (G H : Hp) (ρ : Row) (γ : Bxs) (σ : L2.St) (d : Bool) (ρ' : Row) (γ' : Bxs) (Q : Bool → Hp → Prop),
  Rel K δ F own G H ρ γ σ → f ρ γ = some (d, ρ', γ') → (∀ G' H', Rel K δ F own G' H' ρ' γ' σ → Same G G' → Q d H') → t σ H Q
def ER (K : Fg) (t : TE) (f : Fx) : Prop := ∀ (δ : List Addr) (F : Fm) (own : Nat → Addr) (G H : Hp) (ρ : Row) (γ : Bxs) (σ : L2.St) (d : D) (ρ' : Row) (γ' : Bxs) (Q : VK),
  Rel K δ F own G H ρ γ σ → f ρ γ = some (d, ρ', γ') → (∀ v G' H', Rel K δ F own G' H' ρ' γ' σ → Same G G' → Rep K G' v d → Q v H') → t σ H Q
def IR (K : Fg) (wi : TI) (f : Fs) : Prop := ∀ (δ : List Addr) (F : Fm) (own : Nat → Addr) (G H : Hp) (ρ : Row) (γ : Bxs) (σ : L2.St) (ds : List D) (ρ' : Row) (γ' : Bxs) (R : It → Hp → Prop),
  Rel K δ F own G H ρ γ σ → f ρ γ = some (ds, ρ', γ') → (∀ J G' H', Rel K δ F own G' H' ρ' γ' σ → Same G G' → ItOk K G' J ds → R J H') → wi σ H R

theorem SlV.ol_at {K : Fg} {δ : List Addr} {F : Fm} {own : Nat → Addr} {ρ : Row} {G H : Hp} {p : Addr} {xs : List D} (h : SlV K δ F own ρ G H (.ref p) (.ol xs)) : ∃ vs, Free δ F own G ρ p ∧ H p = some (.lst vs) ∧ Reps K G vs xs := by
  obtain ⟨q, vs, e, f, hp, hs⟩ := h
  cases e
  exact ⟨vs, f, hp, hs⟩
theorem Free.unS {δ : List Addr} {F : Fm} {own : Nat → Addr} {G : Hp} {ρ : Row} {p : Addr} (f : Free δ F own G ρ p) (vs : List Nat) : Free δ F own G (DL.unS vs ρ) p :=
  ⟨f.g, f.d, f.f, fun j xs hj => f.o j xs (unS_get hj (fun z => nomatch z)).1⟩
theorem qt_lc {K : Fg} {wi : TI} {g : TG} {tt : TT} {te : TE} {vs : List Nat} {fi : Fs} {gg : Fg1} {ts : List Nat} {ft : Ft} {fe : Fx} (hi : IR K wi fi) (hg : GR K g ts gg) (ht : TR K tt ft) (he : ER K te fe) (hv : ∀ i ∈ ts, i ∈ vs) : QT K (tLc wi g tt te vs) (qLc fi vs gg ft fe) := by
  intro δ F own G H ρ γ σ s ρ' γ' Q R e k
  obtain ⟨⟨ds, ρ1, γ1⟩, e1, e⟩ := bind_some e
  obtain ⟨⟨res, ρ2, γ2⟩, e2, e⟩ := map_some e
  cases e
  refine hi δ F own G H ρ γ σ ds _ _ _ R e1 fun J G1 H1 R1 s1 it => ?_
  intro Dl hD
  have f0 : Free δ F own G1 ρ1 Dl := R1.live hD
  have R1' := (R1.updF (o := .lst []) f0).forget vs (σ' := σ) rfl fun _ _ => rfl
  refine ⟨fun i m H => m = ds.length - i ∧ i ≤ ds.length ∧ ∃ G ρ γ acc, Rel K δ F own G H ρ γ σ ∧ Same G1 G ∧ SlV K δ F own ρ G H (.ref Dl) (.ol acc) ∧ unS vs ρ = ρ ∧ lcL vs gg ft fe (ds.drop i) acc ρ γ = some (res, ρ', γ'),
    ⟨ds.length, by simp, Nat.zero_le _, G1, unS vs ρ1, γ1, [], R1', Same.refl _, ⟨Dl, [], rfl, f0.unS vs, upd_same, .nil⟩, unS_unS vs ρ1, e2⟩, ?_⟩
  rintro i m H2 ⟨rfl, hle, G2, ρ2, γ2, acc, R2, s2, sv, eu, e3⟩
  by_cases hlt : i < ds.length
  · obtain ⟨d, hd, hdr⟩ := drop_at hlt
    rw [hdr] at e3
    obtain ⟨ρ3, e4, e5⟩ := bind_some e3
    obtain ⟨⟨b, ρ4, γ4⟩, e6, e7⟩ := bind_some e5
    obtain ⟨gn, gy⟩ := it.go G2 H2 s2 R2.sub i d hd
    refine Or.inr ⟨gn, fun H' => ∃ G ρ γ acc, Rel K δ F own G H' ρ γ σ ∧ Same G1 G ∧ SlV K δ F own ρ G H' (.ref Dl) (.ol acc) ∧ unS vs ρ = ρ ∧ lcL vs gg ft fe (ds.drop (i + 1)) acc ρ γ = some (res, ρ', γ'), fun H' h => ⟨ds.length - (i + 1), by omega, rfl, hlt, h⟩, fun x H3 y => ?_⟩
    obtain ⟨G3, st, rx⟩ := gy x H3 y
    -- the turn runs under the frame that keeps the new list
    have R3 := ((R2.hold sv).step st).wipe vs
    rw [eu] at R3
    refine hg δ _ own G3 H3 ρ2 γ2 (wipe σ vs) x d ρ3 _ R3 rx e4 fun σ4 R4 w4 => ?_
    have hw : wipe σ4 vs = wipe σ vs := by rw [w4 vs hv, wipe_wipe]
    have hlen : σ4.length = σ.length := by rw [← wipe_length σ4 vs, hw, wipe_length]
    refine ⟨hw, ht δ _ own G3 H3 ρ3 γ2 σ4 b _ _ _ R4 e6 fun G4 H4 R5 s5 => ?_⟩
    cases b with
    | false =>
      have e7 : lcL vs gg ft fe (ds.drop (i + 1)) acc (unS vs ρ4) γ4 = some (res, ρ', γ') := e7
      obtain ⟨R6, sv6⟩ := Rel.unhold R2.g0 sv (st.sg.trans s5) R5
      refine iteF ⟨G4, unS vs ρ4, γ4, acc, R6.unwipe hlen hw, s2.trans (st.sg.trans s5), ?_, unS_unS _ _, e7⟩
      obtain ⟨ws, f6, h6, r6⟩ := sv6.ol_at
      exact ⟨Dl, ws, rfl, f6.unS vs, h6, r6⟩
    | true =>
      obtain ⟨⟨d', ρ5, γ5⟩, e8, e9⟩ := bind_some e7
      split at e9
      case isFalse => cases e9
      rename_i hz
      refine iteT (he δ _ own G4 H4 _ _ σ4 d' _ _ _ R5 e8 fun v G5 H5 R6 s6 r6 => ?_)
      obtain ⟨R7, sv7⟩ := Rel.unhold R2.g0 sv ((st.sg.trans s5).trans s6) R6
      obtain ⟨ws, f7, h7, r7⟩ := sv7.ol_at
      refine ⟨ws, h7, by rw [r7.length]; exact hz, G5, unS vs ρ5, γ5, acc ++ [d'], (R7.updF f7).unwipe hlen hw, s2.trans ((st.sg.trans s5).trans s6), ?_, unS_unS _ _, e9⟩
      exact ⟨Dl, ws ++ [v], rfl, f7.unS vs, upd_same, r7.append (.cons r6 .nil)⟩
  · have ei : i = ds.length := by omega
    subst ei
    rw [List.drop_length] at e3
    cases e3
    exact Or.inl ⟨it.stop G2 H2 s2 R2.sub, k _ G2 H2 R2 (s1.trans s2) sv⟩

/-- a new list, as data -/
def fQ (fq : Fq) : Fx := fun ρ γ => (fq ρ γ).bind fun p => match p.1 with
  | .ol xs => some (.list xs, p.2)
  | .d x => some (x, p.2)
  | _ => none
section
variable {X : Cx} {elt tg iter : Expr} {ifs : List Expr} {scope : Scope} {own : List (Str × Nat)} {pos spos py : Pos} {fi : Fs} {ts : List Nat} {g : Fg1} {ft : Ft} {fe : Fx}
theorem de_q {e : Expr} {fq : Fq} (h : DQ X e fq) : DE X e (fQ fq) := by
  obtain ⟨t, p, q⟩ := h
  refine ⟨t, p, fun δ F own G H ρ γ σ d ρ' γ' Q R e k => ?_⟩
  obtain ⟨⟨s, ρ1, γ1⟩, e1, e⟩ := bind_some e
  refine q δ F own G H ρ γ σ s _ _ _ R e1 fun v G1 H1 R1 s1 r1 => ?_
  cases s with
  | un => cases e
  | bx n => cases e
  | d x => cases e; exact k v G1 H1 R1 s1 r1
  | ol xs =>
    cases e
    obtain ⟨p, vs, rfl, f, hp, hs⟩ := r1
    have sg : Same G1 (upd G1 p (.lst vs)) := fun b u e => by
      have hb : b ≠ p := fun z => by rw [z, f.g] at e; cases e
      rw [upd_ne hb]; exact e
    have R2 : Rel X.K δ F own (upd G1 p (.lst vs)) H1 ρ' γ' σ := by
      refine ⟨⟨fun b u e => ?_, R1.wd.len, R1.wd.nd, fun a ha => ?_, fun n c hc => ?_⟩, R1.g0.trans sg, fun b h1 h2 => ?_, R1.h0, R1.len, fun j s hj => ?_, fun j xs hj => ?_, R1.inj⟩
      · by_cases hb : b = p
        · rw [hb, upd_same] at e; cases e; rw [hb]; exact hp
        · rw [upd_ne hb] at e; exact R1.sub _ _ e
      · have hb : a ≠ p := fun z => f.d (by rw [← z]; exact ha)
        rw [upd_ne hb]; exact R1.wd.out a ha
      · obtain ⟨a, ws, h1, h2, h3⟩ := R1.wd.cell n c hc
        exact ⟨a, ws, h1, h2, h3.mono sg⟩
      · have hb : b ≠ p := fun z => h1 (by rw [z]; exact f.f)
        rw [upd_ne hb]; exact R1.q0 b h1 h2
      · have q := R1.slot j s hj
        cases s with
        | un => trivial
        | d x => obtain ⟨v, q1, q2⟩ := q; exact ⟨v, q1, q2.mono sg⟩
        | bx n => exact q
        | ol ys => obtain ⟨q1, ws, q2, q3⟩ := q; exact ⟨q1, ws, q2, q3.mono sg⟩
      · obtain ⟨o1, o2, o3⟩ := R1.ownd j xs hj
        refine ⟨?_, o2, o3⟩
        rw [upd_ne (f.o j xs hj)]; exact o1
    exact k _ _ _ R2 (s1.trans sg) (.lst (SqX.of upd_same) (hs.mono sg))
def tE (K : Fg) (f : Fx) : TE := fun σ H Q => ∃ (δ : List Addr) (F : Fm) (own : Nat → Addr) (G : Hp) (ρ : Row) (γ : Bxs) (d : D) (ρ' : Row) (γ' : Bxs), Rel K δ F own G H ρ γ σ ∧ f ρ γ = some (d, ρ', γ') ∧ ∀ v G' H', Rel K δ F own G' H' ρ' γ' σ → Same G G' → Rep K G' v d → Q v H'
def tT (K : Fg) (f : Ft) : TT := fun σ H Q => ∃ (δ : List Addr) (F : Fm) (own : Nat → Addr) (G : Hp) (ρ : Row) (γ : Bxs) (d : Bool) (ρ' : Row) (γ' : Bxs), Rel K δ F own G H ρ γ σ ∧ f ρ γ = some (d, ρ', γ') ∧ ∀ G' H', Rel K δ F own G' H' ρ' γ' σ → Same G G' → Q d H'
def tG (K : Fg) (ts : List Nat) (g : Fg1) : TG := fun v σ H Q => ∃ (δ : List Addr) (F : Fm) (own : Nat → Addr) (G : Hp) (ρ : Row) (γ : Bxs) (d : D) (ρ' : Row), Rel K δ F own G H ρ γ σ ∧ Rep K G v d ∧ g d ρ = some ρ' ∧ ∀ σ', Rel K δ F own G H ρ' γ σ' → (∀ vs : List Nat, (∀ i ∈ ts, i ∈ vs) → L2.wipe σ' vs = L2.wipe σ vs) → Q σ' H
theorem DE.can {e : Expr} {f : Fx} (h : DE X e f) : PE X e (tE X.K f) := by
  obtain ⟨t, p, q⟩ := h
  exact ⟨fun pins s σ H Q I ⟨δ, F, own, G, ρ, γ, d, ρ', γ', R, e, k⟩ => p.run pins s σ H Q I (q δ F own G H ρ γ σ d ρ' γ' Q R e k)⟩
theorem DTs.can {es : List Expr} {f : Ft} (h : DTs X es f) : PTs X es (tT X.K f) := by
  obtain ⟨t, p, q⟩ := h
  exact ⟨fun pins s σ H Q I ⟨δ, F, own, G, ρ, γ, d, ρ', γ', R, e, k⟩ => p.run pins s σ H Q I (q δ F own G H ρ γ σ d ρ' γ' Q R e k)⟩
theorem DG.can {e : Expr} {f : Fg1} (h : DG X e ts f) : PG X e (tG X.K ts f) := by
  obtain ⟨t, p, q⟩ := h
  exact ⟨fun pins s σ H v u Q I rv ⟨δ, F, own, G, ρ, γ, d, ρ', R, r, e, k⟩ => p.run pins s σ H v u Q I rv (q δ F own G H ρ γ σ v d ρ' Q R r e k)⟩
theorem er_can (K : Fg) (f : Fx) : ER K (tE K f) f := fun δ F own G H ρ γ σ d ρ' γ' Q R e k => ⟨δ, F, own, G, ρ, γ, d, ρ', γ', R, e, k⟩
theorem tr_can (K : Fg) (f : Ft) : TR K (tT K f) f := fun δ F own G H ρ γ σ d ρ' γ' Q R e k => ⟨δ, F, own, G, ρ, γ, d, ρ', γ', R, e, k⟩
theorem gr_can (K : Fg) (f : Fg1) : GR K (tG K ts f) ts f := fun δ F own G H ρ γ σ v d ρ' Q R r e k => ⟨δ, F, own, G, ρ, γ, d, ρ', R, r, e, k⟩
theorem Okc.blk (O : Okc X) (s : Shared) (H : Hp) (C : Addr) (cl : List (Str × Addr)) (fp : List Addr) : Okc (X.blk s H scope (compEnvC scope cl C X.env) fp) :=
  ⟨O.hr, O.hg, O.calm, O.nd, PassesOwn.never⟩
theorem dq_lc (O : Okc X) (hi : DI X tg iter fi) (ok : BlkOk X.N X.env.scope scope own)
    (hg : ∀ (s : Shared) (H : Hp) (C : Addr) (cl : List (Str × Addr)) (fp : List Addr), DG (X.blk s H scope (compEnvC scope cl C X.env) fp) tg ts g)
    (ht : ∀ (s : Shared) (H : Hp) (C : Addr) (cl : List (Str × Addr)) (fp : List Addr), DTs (X.blk s H scope (compEnvC scope cl C X.env) fp) ifs ft)
    (he : ∀ (s : Shared) (H : Hp) (C : Addr) (cl : List (Str × Addr)) (fp : List Addr), DE (X.blk s H scope (compEnvC scope cl C X.env) fp) elt fe)
    (hv : ∀ i ∈ ts, i ∈ own.map (·.2)) (hs : ∀ x, foldedSetIterable iter X.env x = pure x := by intro _; rfl) :
    DQ X (.ListComp elt [⟨tg, iter, ifs, 0⟩] scope pos) (qLc fi (own.map (·.2)) g ft fe) := by
  obtain ⟨wi, pi, qi⟩ := hi
  exact ⟨_, pe_lc (g := tG X.K ts g) (tt := tT X.K ft) (te := tE X.K fe) O.calm O.nd pi ok (fun s H C cl fp => (hg s H C cl fp).can) (fun s H C cl fp => (ht s H C cl fp).can) (fun s H C cl fp => (he s H C cl fp).can) hs, qt_lc qi (gr_can X.K g) (tr_can X.K ft) (er_can X.K fe) hv⟩
theorem ds_setLc {i : Nat} {y : Str} (O : Okc X) (hy : X.N[i]? = some y) (hyl : X.env.scope.names.lookup y = some .local) (hsw : swapsWith (.ListComp elt [⟨tg, iter, ifs, 0⟩] scope pos) (some (.Name y py)) spos.line X.env = pure true)
    (hi : DI X tg iter fi) (ok : BlkOk X.N X.env.scope scope own)
    (hg : ∀ (s : Shared) (H : Hp) (C : Addr) (cl : List (Str × Addr)) (fp : List Addr), DG (X.blk s H scope (compEnvC scope cl C X.env) fp) tg ts g)
    (ht : ∀ (s : Shared) (H : Hp) (C : Addr) (cl : List (Str × Addr)) (fp : List Addr), DTs (X.blk s H scope (compEnvC scope cl C X.env) fp) ifs ft)
    (he : ∀ (s : Shared) (H : Hp) (C : Addr) (cl : List (Str × Addr)) (fp : List Addr), DE (X.blk s H scope (compEnvC scope cl C X.env) fp) elt fe)
    (hv : ∀ i ∈ ts, i ∈ own.map (·.2)) (hs : ∀ x, foldedSetIterable iter X.env x = pure x := by intro _; rfl) :
    DS X (.Assign [.Name y py] (.ListComp elt [⟨tg, iter, ifs, 0⟩] scope pos) spos) (sSet i (qLc fi (own.map (·.2)) g ft fe)) := by
  obtain ⟨wi, pi, qi⟩ := hi
  refine ⟨_, ps_setLc (g := tG X.K ts g) (tt := tT X.K ft) (te := tE X.K fe) O.calm O.nd hy hyl hsw pi ok (fun s H C cl fp => (hg s H C cl fp).can) (fun s H C cl fp => (ht s H C cl fp).can) (fun s H C cl fp => (he s H C cl fp).can) hs, fun δ F ow G H ρ γ σ o E R e k => ?_⟩
  obtain ⟨⟨s, ρ1, γ1⟩, e1, e⟩ := map_some e
  cases e
  refine qt_lc qi (gr_can X.K g) (tr_can X.K ft) (er_can X.K fe) hv δ F ow G H ρ γ σ s _ _ _ R e1 fun v G' H' R' sg r => ?_
  obtain ⟨own', R2⟩ := R'.setV i r
  exact k own' G' H' _ R2 sg
end
end DL

namespace DL
open PySem PySem.Spec PyProof.Rows L2

abbrev Fn := List Sl → Bxs → Option (Sl × Bxs)
/-- the arguments -/
inductive ArgOk (K : Fg) (δ : List Addr) (G : Hp) : List V → List Sl → Prop
  | nil : ArgOk K δ G [] []
  | d {v : V} {x : D} {vs : List V} {as : List Sl} : Rep K G v x → ArgOk K δ G vs as → ArgOk K δ G (v :: vs) (.d x :: as)
  | bx {b : Addr} {n : Nat} {vs : List V} {as : List Sl} : δ[n]? = some b → ArgOk K δ G vs as → ArgOk K δ G (.ref b :: vs) (.bx n :: as)
theorem ArgOk.length {K : Fg} {δ : List Addr} {G : Hp} : ∀ {vs : List V} {as : List Sl}, ArgOk K δ G vs as → vs.length = as.length
  | _, _, .nil => rfl
  | _, _, .d _ t => by simp only [List.length_cons, ArgOk.length t]
  | _, _, .bx _ t => by simp only [List.length_cons, ArgOk.length t]
theorem ArgOk.mono {K : Fg} {δ : List Addr} {G G' : Hp} (e : Same G G') : ∀ {vs : List V} {as : List Sl}, ArgOk K δ G vs as → ArgOk K δ G' vs as
  | _, _, .nil => .nil
  | _, _, .d r t => .d (r.mono e) (ArgOk.mono e t)
  | _, _, .bx r t => .bx r (ArgOk.mono e t)
theorem ArgOk.get {K : Fg} {δ : List Addr} {G : Hp} (a : Addr) (H : Hp) : ∀ {vs : List V} {as : List Sl} {i : Nat} {s : Sl}, ArgOk K δ G vs as → as[i]? = some s → SlOk K δ a G H ((vs.map some)[i]?) s ∧ ∀ xs, s ≠ .ol xs
  | _, _, _, _, .nil, h => by simp at h
  | _, _, 0, s, .d r t, h => by
    have h : some _ = some s := h
    cases h
    exact ⟨⟨_, rfl, r⟩, fun xs z => nomatch z⟩
  | _, _, 0, s, .bx r t, h => by
    have h : some _ = some s := h
    cases h
    exact ⟨⟨_, r, rfl⟩, fun xs z => nomatch z⟩
  | _, _, i + 1, s, .d r t, h => by
    have q := ArgOk.get a H t (i := i) (s := s) (by simpa using h)
    rw [List.map_cons, List.getElem?_cons_succ]; exact q
  | _, _, i + 1, s, .bx r t, h => by
    have q := ArgOk.get a H t (i := i) (s := s) (by simpa using h)
    rw [List.map_cons, List.getElem?_cons_succ]; exact q

/-- the def at f computes fn -/
structure Kp (P : Program) (w : World) (K : Fg) (mg : Str → Option Value) (base : Heap) (k : Nat) (f : Addr) (fd : FuncData) (ps : List Str) (fn : Fn) : Prop where
  run : ∀ (A : Around) (outer : List Env) (s : Shared) (H G : Hp) (args : Args) (us : List Value) (vs : List V) (δ : List Addr) (as : List Sl) (γ : Bxs) (r : Sl) (γ' : Bxs) (Q : VK), Room k A → A.guards = some [] → Env0 P w K mg base A outer s H →
    BindsTo s fd args (ps.zip us) → Vals vs us → vs.length = ps.length → Wd K δ γ G H → ArgOk K δ G vs as → fn as γ = some (r, γ') →
    (∀ v G' H', Fin K δ ⟨G, H⟩ γ' G' H' → RetV K δ ⟨G, H⟩ G' H' v r → Q v H') → codeAny (model P w) A (.call (.ref f) args) (CR CX0 outer P w H s Q E0) s

/-- a body's outcome as a call's -/
def doneO : Oc → Option (Sl × Bxs)
  | .rt s γ => some (s, γ)
  | .nx _ γ => some (.d .none, γ)
  | _ => none
/-- what a def of n names computes, by its body -/
def fnOf (n : Nat) (fb : Fst) : Fn := fun as γ => (fb (as ++ List.replicate (n - as.length) .un) γ).bind doneO

/-- the context of a body -/
abbrev Cxd (P : Program) (w : World) (K : Fg) (mg : Str → Option Value) (base : Heap) (N : List Str) (qual : Str) (st : Stmt) (f : Addr) (cdv : Value) (A : Around) (outer : List Env) (s : Shared) (H : Hp) : Cx :=
  (cxOf CX0 P w K mg base N qual (defScope st) f cdv A outer s H E0).nox
section
variable {P : Program} {w : World} {K : Fg} {mg : Str → Option Value} {base : Heap}
theorem rel_start {δ : List Addr} {γ : Bxs} {G H : Hp} {vs : List V} {as : List Sl} {N ps : List Str} (wd : Wd K δ γ G H) (ha : ArgOk K δ G vs as) (hl : vs.length ≤ N.length) : Rel K δ ⟨G, H⟩ (fun _ => 0) G H (as ++ List.replicate (N.length - as.length) .un) γ (L2.start N vs) := by
  have el := ha.length
  have at_i : ∀ {i : Nat} {s : Sl}, (as ++ List.replicate (N.length - as.length) Sl.un)[i]? = some s → s ≠ .un → as[i]? = some s ∧ i < vs.length := fun {i s} h hn => by
    by_cases hi : i < as.length
    · rw [List.getElem?_append_left hi] at h
      exact ⟨h, by omega⟩
    · rw [List.getElem?_append_right (by omega), List.getElem?_replicate] at h
      split at h
      · cases h; exact absurd rfl hn
      · cases h
  have no : ∀ {i : Nat} {xs : List D}, (as ++ List.replicate (N.length - as.length) Sl.un)[i]? ≠ some (.ol xs) := fun {i xs} h =>
    (ha.get 0 H (at_i h (fun z => nomatch z)).1).2 xs rfl
  refine ⟨wd, Same.refl _, fun b h1 h2 => h2, fun b o h1 h2 h3 => h1, ?_, fun i s hi => ?_, fun i xs hi => absurd hi no, fun i j xs ys hi => absurd hi no⟩
  · unfold L2.start
    rw [List.length_append, List.length_append, List.length_replicate, List.length_map, List.length_replicate, el]
  · by_cases hn : s = .un
    · subst hn; trivial
    · obtain ⟨h1, h2⟩ := at_i hi hn
      have e : (L2.start N vs)[i]? = (vs.map some)[i]? := by
        unfold L2.start
        rw [List.getElem?_append_left (by simpa using h2)]
      rw [e]
      exact (ha.get 0 H h1).1
/-- a def of the text, by its body -/
theorem Kp.of {x qual : Str} {st : Stmt} {f : Addr} {fd : FuncData} {N ps : List Str} {k : Nat} {fb : Fst} (F : Fun K x qual st f fd) (S : FnScope N ps (defScope st))
    (hb : ∀ (cdv : Value) (A : Around) (outer : List Env) (s : Shared) (H : Hp), Okc (Cxd P w K mg base N qual st f cdv A outer s H) → Room (k + 1) (Cxd P w K mg base N qual st f cdv A outer s H).A → DB (Cxd P w K mg base N qual st f cdv A outer s H) (defBody st) fb) :
    Kp P w K mg base (k + 2) f fd ps (fnOf N.length fb) := by
  obtain ⟨oc, od, kV, doc, pm, an, cdv, ct, osl, rfl, lk, hcd⟩ := F.ex
  refine ⟨fun A outer s H G args us vs δ as γ r γ' Q hr hgd e0 hbn rv hl wd ha hfn hq => ?_⟩
  have lowB : ∀ b o, base.get? b = some o → s.heap.get? b = some o := fun b o z => (e0.bs b o z).1
  have KX : K.In s.heap := e0.mod.kin.keeps lowB
  have lim : s.heap.NoLimit := e0.mod.nolimit.keeps lowB
  have seen : ∀ y ∈ ps.zip us, (defScope st).names.lookup y.1 = some .local ∨ ((defScope st).names.lookup y.1 = some .cell ∧ ((cellsFrom (s.heap.objs.size + 1) (defScope st).names []).lookup y.1).isSome = true) := fun ⟨n, v⟩ hy =>
    (S.par n (List.of_mem_zip hy).1).imp id fun q => ⟨q, PySem.W.cellsFrom_some _ _ _ (Or.inl q)⟩
  have hpl : vs.length ≤ N.length := by
    have z := congrArg List.length S.pre
    rw [List.length_take] at z
    omega
  obtain ⟨o, eo, ed⟩ := bind_some hfn
  refine codeAny_call_function hr.depth (KX _ _ lk) rfl S.co S.gen rfl (PySem.W.codeRec_of KX hcd) (hbn _ _ _ _ ?_)
  refine wpAny_newFunctionEnv_cells S.kind seen fun env he s1 x => ?_
  subst he
  refine ⟨lim.keeps x.toInCall.keep, codeAny_func ?_⟩
  have O : Okc (Cxd P w K mg base N qual st f cdv A outer s H) := ⟨(hr.mono (by omega : 2 ≤ k + 2)).deeper _, hgd, rfl, S.nd, PassesOwn.never⟩
  obtain ⟨t, ht, hd⟩ := hb cdv A outer s H O (hr.deeper _)
  have I := inv_start (CX := CX0) (E := E0) (mg := mg) (base := base) (P := P) (w := w) (cd := cdv) (f := f) (qual := qual) S hr.hd e0 hl rv x
  have R := rel_start (N := N) (ps := ps) wd ha hpl
  have back : ∀ {σ' : L2.St} {H' : Hp} {v : V} {u : Value} {s' : Shared}, Inv (cxOf CX0 P w K mg base N qual (defScope st) f cdv A outer s H E0) [] σ' H' s' → RelV v u → Q v H' → CE outer P w H s Q u s' :=
    fun {σ' H' v u s'} J rv q => ⟨v, H', J.os, J.bare, J.base, J.hok, rv, q⟩
  refine wpAny_mono (ht.nox.run [] s1 (L2.start N vs) H { nx := fun _ H' => Q .non H', rt := Q } I (hd δ ⟨G, H⟩ _ G H _ γ _ o _ R eo ?_)) (fun fl s' hs => ?_) fun e s' hs => hs
  · cases o with
    | nx ρ1 γ1 =>
      cases ed
      exact fun own' G' H' σ' R' _ => hq .non G' H' R'.fin Rep.non
    | rt s1 γ1 =>
      cases ed
      exact fun v G' H' fin rv => hq v G' H' fin rv
    | bk ρ1 γ1 => cases ed
    | ct ρ1 γ1 => cases ed
  · cases fl with
    | ret u =>
      obtain ⟨v, σ', H', J, rv, q⟩ := hs
      exact back J rv q
    | next =>
      obtain ⟨σ', H', J, q⟩ := hs
      exact back (v := V.non) (u := Value.none) J rfl q
    | brk => obtain ⟨_, _, _, q⟩ := hs; exact False.elim q
    | cont => obtain ⟨_, _, _, q⟩ := hs; exact False.elim q
end
end DL

namespace DL
open PySem PySem.Spec PyProof.Rows L2

abbrev Fa := Row → Bxs → Option (List Sl × Row × Bxs)
def DAr (X : Cx) (es : List Expr) (f : Fa) : Prop := (∀ (ρ : Row) (γ : Bxs) (as : List Sl) (ρ' : Row) (γ' : Bxs), f ρ γ = some (as, ρ', γ') → as.length = es.length) ∧ ∃ t, PA X es t ∧ ∀ (δ : List Addr) (F : Fm) (own : Nat → Addr) (G H : Hp) (ρ : Row) (γ : Bxs) (σ : L2.St) (as : List Sl) (ρ' : Row) (γ' : Bxs) (Q : List V → Hp → Prop),
  Rel X.K δ F own G H ρ γ σ → f ρ γ = some (as, ρ', γ') → (∀ vs G' H', Rel X.K δ F own G' H' ρ' γ' σ → Same G G' → ArgOk X.K δ G' vs as → Q vs H') → t σ H Q
def aNil : Fa := fun ρ γ => some ([], ρ, γ)
def aE (fa : Fx) (fr : Fa) : Fa := fun ρ γ => (fa ρ γ).bind fun p => (fr p.2.1 p.2.2).map fun q => (.d p.1 :: q.1, q.2)
/-- a box is handed on -/
def aB (i : Nat) (fr : Fa) : Fa := fun ρ γ => match ρ[i]? with
  | some (.bx n) => (fr ρ γ).map fun q => (.bx n :: q.1, q.2)
  | _ => none
def qCall (fn : Fn) (fa : Fa) : Fq := fun ρ γ => (fa ρ γ).bind fun p => (fn p.1 p.2.2).map fun q => (q.1, p.2.1, q.2)
/-- the own list of slot i is lent to the call, as its first argument -/
def qCallO (fn : Fn) (i : Nat) (fa : Fa) : Fq := fun ρ γ => match ρ[i]? with
  | some (.ol _) => (fa ρ γ).bind fun p => match p.2.1[i]? with
    | some (.ol xs) => (fn (.bx p.2.2.length :: p.1) (p.2.2 ++ [xs])).bind fun q => (q.2[p.2.2.length]?).map fun ys => (q.1, p.2.1.set i (.ol ys), q.2.take p.2.2.length)
    | _ => none
  | _ => none
section
variable {K : Fg} {δ : List Addr} {F : Fm} {own : Nat → Addr} {G H : Hp} {ρ : Row} {γ : Bxs} {σ : L2.St}
/-- behind a call -/
theorem Rel.called (r : Rel K δ F own G H ρ γ σ) {γ' : Bxs} {G' H' : Hp} (f : Fin K δ ⟨G, H⟩ γ' G' H') : Rel K δ F own G' H' ρ γ' σ := by
  have sg : Same G G' := f.g0
  refine ⟨f.wd, r.g0.trans sg, fun b h1 h2 => ?_, fun b o h1 h2 h3 => ?_, r.len, fun i s hi => ?_, fun i xs hi => ?_, r.inj⟩
  · by_cases hd : b ∈ δ
    · exact f.wd.out b hd
    · cases q : F.H b with
      | none => exact absurd q h1
      | some o => exact f.q0 b (by rw [show (⟨G, H⟩ : Fm).H b = some o from r.h0 b o q h2 hd]; intro z; cases z) (r.q0 b h1 h2)
  · exact f.h0 b o (r.h0 b o h1 h2 h3) (r.q0 b (by rw [h1]; intro z; cases z) h2) h3
  · have q := r.slot i s hi
    cases s with
    | un => trivial
    | d x => obtain ⟨v, q1, q2⟩ := q; exact ⟨v, q1, q2.mono sg⟩
    | bx n => exact q
    | ol xs =>
      obtain ⟨q1, vs, q2, q3⟩ := q
      obtain ⟨o1, o2, o3⟩ := r.ownd i xs hi
      exact ⟨q1, vs, f.h0 _ _ q2 o1 o2, q3.mono sg⟩
  · obtain ⟨o1, o2, o3⟩ := r.ownd i xs hi
    obtain ⟨_, vs, q2, _⟩ := r.slot i _ hi
    exact ⟨f.q0 _ (by rw [show (⟨G, H⟩ : Fm).H (own i) = some _ from q2]; intro z; cases z) o1, o2, o3⟩
/-- what it hands back -/
theorem Rel.gave (r : Rel K δ F own G H ρ γ σ) {ρ' : Row} {G' H' : Hp} {v : V} (ho : ∀ (j : Nat) (xs : List D), ρ'[j]? = some (.ol xs) → ∃ ys, ρ[j]? = some (.ol ys)) : ∀ {s : Sl}, RetV K δ ⟨G, H⟩ G' H' v s → SlV K δ F own ρ' G' H' v s
  | .d _, h => h
  | .ol xs, ⟨p, vs, e, g, d, hn, hp, hs⟩ => by
    have f0 := r.live (p := p) hn
    refine ⟨p, vs, e, ⟨g, d, f0.f, fun j ys hj => ?_⟩, hp, hs⟩
    obtain ⟨zs, hz⟩ := ho j ys hj
    exact f0.o j zs hz
/-- the own list of slot i is lent: one more box -/
theorem Rel.lend (r : Rel K δ F own G H ρ γ σ) {i : Nat} {xs : List D} (hi : ρ[i]? = some (.ol xs)) : Wd K (δ ++ [own i]) (γ ++ [xs]) G H := by
  obtain ⟨o1, o2, o3⟩ := r.ownd i xs hi
  obtain ⟨q1, vs, q2, q3⟩ := r.slot i _ hi
  refine ⟨r.sub, by rw [List.length_append, List.length_append, r.wd.len]; rfl, ?_, fun a ha => ?_, fun n c hc => ?_⟩
  · refine List.nodup_append.mpr ⟨r.wd.nd, by simp, fun a ha b hb e => ?_⟩
    have : b = own i := by simpa using hb
    subst this
    subst e
    exact o2 ha
  · rcases List.mem_append.mp ha with z | z
    · exact r.wd.out a z
    · have : a = own i := by simpa using z
      rw [this]; exact o1
  · by_cases hn : n < γ.length
    · rw [List.getElem?_append_left hn] at hc
      obtain ⟨a, ws, h1, h2, h3⟩ := r.wd.cell n c hc
      exact ⟨a, ws, by rw [List.getElem?_append_left (by rw [r.wd.len]; exact hn)]; exact h1, h2, h3⟩
    · rw [List.getElem?_append_right (by omega)] at hc
      have e0 : n - γ.length = 0 := by
        cases e : n - γ.length with
        | zero => rfl
        | succ m => rw [e] at hc; simp at hc
      rw [e0] at hc
      cases hc
      refine ⟨own i, vs, ?_, q2, q3⟩
      rw [List.getElem?_append_right (by rw [r.wd.len]; omega), r.wd.len, e0]
      rfl
theorem Rel.lent (r : Rel K δ F own G H ρ γ σ) {i : Nat} {xs ys : List D} (hi : ρ[i]? = some (.ol xs)) {γ' : Bxs} {G' H' : Hp} (f : Fin K (δ ++ [own i]) ⟨G, H⟩ γ' G' H') (hy : γ'[γ.length]? = some ys) : Rel K δ F own G' H' (ρ.set i (.ol ys)) (γ'.take γ.length) σ := by
  have sg : Same G G' := f.g0
  obtain ⟨o1, o2, o3⟩ := r.ownd i xs hi
  obtain ⟨q1, vs, q2, q3⟩ := r.slot i _ hi
  have hl : i < ρ.length := (List.getElem?_eq_some_iff.mp hi).1
  have lenγ : γ'.length = γ.length + 1 := by
    have := f.wd.len
    rw [List.length_append, r.wd.len] at this
    simpa using this.symm
  have notin : ∀ {b : Addr}, b ∉ δ → b ≠ own i → b ∉ δ ++ [own i] := fun h1 h2 z => by
    rcases List.mem_append.mp z with z | z
    · exact h1 z
    · exact h2 (by simpa using z)
  refine ⟨⟨f.wd.sub, ?_, r.wd.nd, fun a ha => f.wd.out a (List.mem_append_left _ ha), fun n c hc => ?_⟩, r.g0.trans sg, fun b h1 h2 => ?_, fun b o h1 h2 h3 => ?_, by rw [List.length_set]; exact r.len, fun j s hj => ?_, fun j zs hj => ?_, fun j k zs ws hj hk => ?_⟩
  · rw [List.length_take, lenγ, r.wd.len]; omega
  · have hn : n < γ.length := by
      have := (List.getElem?_eq_some_iff.mp hc).1
      rw [List.length_take] at this; omega
    rw [List.getElem?_take_of_lt hn] at hc
    obtain ⟨a, us, h1, h2, h3⟩ := f.wd.cell n c hc
    rw [List.getElem?_append_left (by rw [r.wd.len]; exact hn)] at h1
    exact ⟨a, us, h1, h2, h3⟩
  · by_cases hd : b ∈ δ
    · exact f.wd.out b (List.mem_append_left _ hd)
    · cases q : F.H b with
      | none => exact absurd q h1
      | some o => exact f.q0 b (by rw [show (⟨G, H⟩ : Fm).H b = some o from r.h0 b o q h2 hd]; intro z; cases z) (r.q0 b h1 h2)
  · have hb : b ≠ own i := fun z => by rw [z, o3] at h1; cases h1
    exact f.h0 b o (r.h0 b o h1 h2 h3) (r.q0 b (by rw [h1]; intro z; cases z) h2) (notin h3 hb)
  · by_cases e : i = j
    · subst e
      rw [get_set_eq hl] at hj
      cases hj
      obtain ⟨a, us, h1, h2, h3⟩ := f.wd.cell γ.length ys hy
      rw [List.getElem?_append_right (by rw [r.wd.len]; exact Nat.le_refl _), r.wd.len, Nat.sub_self] at h1
      have h1 : some (own i) = some a := h1
      cases h1
      exact ⟨q1, us, h2, h3⟩
    · rw [get_set_ne e] at hj
      have q := r.slot j s hj
      cases s with
      | un => trivial
      | d x => obtain ⟨v, z1, z2⟩ := q; exact ⟨v, z1, z2.mono sg⟩
      | bx n => exact q
      | ol zs =>
        obtain ⟨z1, us, z2, z3⟩ := q
        obtain ⟨p1, p2, p3⟩ := r.ownd j zs hj
        have hb : own j ≠ own i := fun z => e (r.inj i j xs zs hi hj z.symm)
        exact ⟨z1, us, f.h0 _ _ z2 p1 (notin p2 hb), z3.mono sg⟩
  · by_cases e : i = j
    · subst e
      exact ⟨f.wd.out _ (List.mem_append_right _ (by simp)), o2, o3⟩
    · rw [get_set_ne e] at hj
      obtain ⟨p1, p2, p3⟩ := r.ownd j zs hj
      obtain ⟨_, us, z2, _⟩ := r.slot j _ hj
      exact ⟨f.q0 _ (by rw [show (⟨G, H⟩ : Fm).H (own j) = some _ from z2]; intro z; cases z) p1, p2, p3⟩
  · have back : ∀ {l : Nat} {zs : List D}, (ρ.set i (.ol ys))[l]? = some (.ol zs) → ∃ us, ρ[l]? = some (.ol us) := fun {l zs} h => by
      rcases set_ol h with ⟨z, _⟩ | ⟨_, z⟩
      · exact ⟨xs, by rw [z]; exact hi⟩
      · exact ⟨zs, z⟩
    obtain ⟨us1, h1⟩ := back hj
    obtain ⟨us2, h2⟩ := back hk
    exact r.inj j k us1 us2 h1 h2
end
section
variable {X : Cx} {e : Expr} {es : List Expr} {fa : Fx} {fr : Fa} {pos p : Pos} {x y : Str} {k i : Nat} {f : Addr} {fd : FuncData} {ps : List Str} {fn : Fn}
theorem dar_nil : DAr X [] aNil := ⟨fun ρ γ as ρ' γ' h => (by cases h; rfl), _, pa_nil, fun δ F own G H ρ γ σ d ρ' γ' Q R e k => by cases e; exact k _ G H R (Same.refl _) .nil⟩
theorem dar_e (ha : DE X e fa) (hr : DAr X es fr) (hs : starEach (e :: es) X.env = (false, eval e X.env) :: starEach es X.env := by rfl) : DAr X (e :: es) (aE fa fr) := by
  obtain ⟨ta, pa, qa⟩ := ha
  obtain ⟨lb, tb, pb, qb⟩ := hr
  refine ⟨fun ρ γ as ρ' γ' h => ?_, _, pa_cons pa pb hs, fun δ F own G H ρ γ σ d ρ' γ' Q R e k => ?_⟩
  · obtain ⟨⟨x, ρ1, γ1⟩, e1, h⟩ := bind_some h
    obtain ⟨⟨y, ρ2, γ2⟩, e2, h⟩ := map_some h
    cases h
    simp only [List.length_cons, lb _ _ _ _ _ e2]
  obtain ⟨⟨x, ρ1, γ1⟩, e1, e⟩ := bind_some e
  obtain ⟨⟨y, ρ2, γ2⟩, e2, e⟩ := map_some e
  cases e
  refine qa δ F own G H ρ γ σ x _ _ _ R e1 fun v G1 H1 R1 s1 r1 => qb δ F own G1 H1 _ _ σ y _ _ _ R1 e2 fun u G2 H2 R2 s2 r2 => ?_
  exact k _ G2 H2 R2 (s1.trans s2) (.d (r1.mono s2) r2)
theorem dar_b (hv : PE X (.Name y p) (tVar i)) (hr : DAr X es fr) (hs : starEach (.Name y p :: es) X.env = (false, eval (.Name y p) X.env) :: starEach es X.env := by rfl) : DAr X (.Name y p :: es) (aB i fr) := by
  obtain ⟨lb, tb, pb, qb⟩ := hr
  refine ⟨fun ρ γ as ρ' γ' h => ?_, _, pa_cons hv pb hs, fun δ F own G H ρ γ σ d ρ' γ' Q R e k => ?_⟩
  · unfold aB at h
    split at h
    · obtain ⟨⟨y, ρ2, γ2⟩, e2, h⟩ := map_some h
      cases h
      simp only [List.length_cons, lb _ _ _ _ _ e2]
    · cases h
  unfold aB at e
  split at e
  · rename_i n hi
    obtain ⟨⟨z, ρ2, γ2⟩, e2, e⟩ := map_some e
    cases e
    obtain ⟨b, h1, h2⟩ := R.slot i _ hi
    show tVar i σ H _
    refine tvar_of h2 (qb δ F own G H ρ γ σ z _ _ _ R e2 fun u G2 H2 R2 s2 r2 => ?_)
    exact k _ G2 H2 R2 s2 (.bx h1 r2)
  · cases e
/-- a def of the text is called -/
theorem run_kp {pins : List (Addr × Obj)} {σ : L2.St} {H G : Hp} {s : Shared} {Q : VK} {us : List Value} {vs : List V} {δ : List Addr} {as : List Sl} {γ γ' : Bxs} {r : Sl} (O : Okc X) (F : Kp X.prog X.w X.K X.mg X.base k f fd ps fn) (hr : Room k X.A) (hb : Binds X.K fd ps []) (hl : vs.length = ps.length)
    (I : Inv X pins σ H s) (rv : Vals vs us) (wd : Wd X.K δ γ G H) (ha : ArgOk X.K δ G vs as) (e : fn as γ = some (r, γ')) (h : ∀ v G' H', Fin X.K δ ⟨G, H⟩ γ' G' H' → RetV X.K δ ⟨G, H⟩ G' H' v r → Q v H') :
    wpAny (model X.prog X.w) X.A (call (.ref f) us) (EP X pins σ Q) X.xe s := by
  have hu : (us ++ []).length = ps.length := by rw [List.append_nil, ← rv.length]; exact hl
  have bt := hb s us I.kIn hu
  rw [List.append_nil] at bt
  refine wpAny_call (codeAny_mono (F.run X.A X.stack s H G ⟨us, []⟩ us vs δ as γ r γ' Q hr O.hg I.env0 bt rv hl wd ha e h) fun z s' hq => ?_)
  cases z with
  | error e => exact False.elim hq
  | ok fl =>
    cases fl with
    | ret u => exact I.after hq
    | next => exact False.elim hq
    | brk => exact False.elim hq
    | cont => exact False.elim hq
theorem dq_call (O : Okc X) (F : Kp X.prog X.w X.K X.mg X.base k f fd ps fn) (hr : Room k X.A) (hg : Gl X x) (hm : X.mg x = some (.ref f)) (hk : PySem.W.keepIn X.K (.ref f) = true) (hb : Binds X.K fd ps []) (ha : DAr X (e :: es) fr)
    (hln : (e :: es).length = ps.length := by rfl) (hdb : (x == ("__debug__" : Str)) = false := by decide) (he : starEach (e :: es) X.env = (false, eval e X.env) :: starEach es X.env := by rfl) (hpl : (backTo pos (starEach es X.env)).any (·.1) = false := by rfl) : DQ X (.Call (.Name x p) (e :: es) [] pos) (qCall fn fr) := by
  obtain ⟨la, ta, pa, qa⟩ := ha
  refine ⟨fun σ H Q => ta σ H fun vs H1 => ∃ (δ : List Addr) (G : Hp) (as : List Sl) (γ : Bxs) (r : Sl) (γ' : Bxs), vs.length = ps.length ∧ Wd X.K δ γ G H1 ∧ ArgOk X.K δ G vs as ∧ fn as γ = some (r, γ') ∧ ∀ v G' H', Fin X.K δ ⟨G, H1⟩ γ' G' H' → RetV X.K δ ⟨G, H1⟩ G' H' v r → Q v H', ⟨fun pins s σ H Q I h => ?_⟩, fun δ F' own G H ρ γ σ s ρ' γ' Q R e k => ?_⟩
  · refine wpAny_Call_Name_kw (ld_glob I hg hm ?_ hdb)
    refine PySem.W.callWith_K (h₀ := X.base) I.ok.mod.kin hk (thn (pa.run pos pins s σ H _ I h) fun us s1 ⟨vs, H1, I1, r, δ, G, as, γ, rr, γ', hl, wd, hA, hf, q⟩ => ⟨I1.kIn, ?_⟩) he hpl
    exact run_kp O F hr hb hl I1 r wd hA hf q
  · obtain ⟨⟨as, ρ1, γ1⟩, e1, e⟩ := bind_some e
    obtain ⟨⟨r, γ2⟩, e2, e⟩ := map_some e
    cases e
    refine qa δ F' own G H ρ γ σ as _ _ _ R e1 fun vs G1 H1 R1 s1 r1 => ⟨δ, G1, as, _, r, _, by rw [r1.length, la _ _ _ _ _ e1]; exact hln, R1.wd, r1, e2, fun v G' H' fin rv => ?_⟩
    exact k v G' H' (R1.called fin) (s1.trans fin.g0) (R1.gave (fun j xs hj => ⟨xs, hj⟩) rv)
theorem dq_callO (O : Okc X) (F : Kp X.prog X.w X.K X.mg X.base k f fd ps fn) (hr : Room k X.A) (hg : Gl X x) (hm : X.mg x = some (.ref f)) (hk : PySem.W.keepIn X.K (.ref f) = true) (hb : Binds X.K fd ps []) (hv : PE X (.Name y p) (tVar i)) (ha : DAr X es fr)
    (hdb : (x == ("__debug__" : Str)) = false := by decide) (he : starEach (.Name y p :: es) X.env = (false, eval (.Name y p) X.env) :: starEach es X.env := by rfl) (hpl : (backTo pos (starEach es X.env)).any (·.1) = false := by rfl) (hln : es.length + 1 = ps.length := by rfl) {p' : Pos} : DQ X (.Call (.Name x p') (.Name y p :: es) [] pos) (qCallO fn i fr) := by
  obtain ⟨la, ta, pa, qa⟩ := ha
  refine ⟨fun σ H Q => tCons (tVar i) ta σ H fun vs H1 => ∃ (δ : List Addr) (G : Hp) (as : List Sl) (γ : Bxs) (r : Sl) (γ' : Bxs), vs.length = ps.length ∧ Wd X.K δ γ G H1 ∧ ArgOk X.K δ G vs as ∧ fn as γ = some (r, γ') ∧ ∀ v G' H', Fin X.K δ ⟨G, H1⟩ γ' G' H' → RetV X.K δ ⟨G, H1⟩ G' H' v r → Q v H', ⟨fun pins s σ H Q I h => ?_⟩, fun δ F' own G H ρ γ σ s ρ' γ' Q R e k => ?_⟩
  · refine wpAny_Call_Name_kw (ld_glob I hg hm ?_ hdb)
    refine PySem.W.callWith_K (h₀ := X.base) I.ok.mod.kin hk (thn ((pa_cons hv pa he).run pos pins s σ H _ I h) fun us s1 ⟨vs, H1, I1, r, δ, G, as, γ, rr, γ', hl, wd, hA, hf, q⟩ => ⟨I1.kIn, ?_⟩) he hpl
    exact run_kp O F hr hb hl I1 r wd hA hf q
  · unfold qCallO at e
    split at e
    case h_2 => cases e
    rename_i xs0 hi0
    obtain ⟨⟨as, ρ1, γ1⟩, e1, e⟩ := bind_some e
    dsimp only at e
    split at e
    case h_2 => cases e
    rename_i xs hi
    obtain ⟨⟨r, γ2⟩, e2, e⟩ := bind_some e
    obtain ⟨ys, e3, e⟩ := map_some e
    cases e
    have h0 := (R.slot i _ hi0).1
    show tVar i σ H _
    refine tvar_of h0 (qa δ F' own G H ρ γ σ as ρ1 γ1 _ R e1 fun vs G1 H1 R1 s1 r1 => ?_)
    have lift : ∀ {ws : List V} {bs : List Sl}, ArgOk X.K δ G1 ws bs → ArgOk X.K (δ ++ [own i]) G1 ws bs := by
      intro ws bs h
      induction h with
      | nil => exact .nil
      | d a _ ih => exact .d a ih
      | bx a _ ih => exact .bx (by rw [List.getElem?_append_left (List.getElem?_eq_some_iff.mp a).1]; exact a) ih
    refine ⟨δ ++ [own i], G1, .bx γ1.length :: as, γ1 ++ [xs], r, γ2, by rw [List.length_cons, r1.length, la _ _ _ _ _ e1]; exact hln, R1.lend hi, .bx ?_ (lift r1), e2, fun v G' H' fin rv => ?_⟩
    · rw [List.getElem?_append_right (by rw [R1.wd.len]; exact Nat.le_refl _), R1.wd.len, Nat.sub_self]; rfl
    · have R2 := R1.lent hi fin e3
      refine k v G' H' R2 (s1.trans fin.g0) ?_
      have rv2 : RetV X.K δ ⟨G1, H1⟩ G' H' v r := by
        cases r with
        | un => exact rv
        | bx n => exact rv
        | d z => exact rv
        | ol zs =>
          obtain ⟨p, vs, e, g, d, hn, hp, hs⟩ := rv
          exact ⟨p, vs, e, g, fun z => d (List.mem_append_left _ z), hn, hp, hs⟩
      refine R1.gave (fun j zs hj => ?_) rv2
      rcases set_ol hj with ⟨z, _⟩ | ⟨_, z⟩
      · exact ⟨xs, by rw [z]; exact hi⟩
      · exact ⟨zs, z⟩
end
end DL

namespace DL
open PySem PySem.Spec PyProof.Rows L2

def tyN : D → String
  | .none => "NoneType"
  | .bool _ => "bool"
  | .int _ => "int"
  | .str _ => "str"
  | .list _ => "list"
  | .tuple _ => "tuple"
  | .dict _ => "dict"
def isD (T : String) (d : D) : Option D := (kitB (tyN d) T).map PyData.bool
theorem Rep.ty {K : Fg} {G H : Hp} (e : Same G H) {v : V} {d : D} (r : Rep K G v d) : TyX K H v (.type (tyN d)) := by
  cases r with
  | non => exact .base .non
  | bl b => exact .base (.bl b)
  | int i => exact .base (.int i)
  | str x => exact .base (.str x)
  | lst h _ =>
    rcases h with (h | ⟨o, h⟩) | ⟨its, n, h, _, _⟩
    · exact .base (.lst (e _ _ h))
    · exact .base (.frz (e _ _ h))
    · exact .kList h rfl
  | tup h _ =>
    rcases h with ⟨o, h, _⟩ | ⟨o, its, n, h, hc, _⟩
    · exact .fTuple (e _ _ h)
    · exact .kTuple h hc
  | dK h _ => exact .base (.dK (e _ _ h))
  | dT h _ => exact .base (.dT (e _ _ h))
section
variable {X : Cx} {e : Expr} {es : List Expr} {fa : Fx} {fs : Fs} {pos p q apos cpos : Pos}
theorem de_isi {T : String} {x : Str} (he : DE X e fa) (hg : Gl X "isinstance") (hm : X.mg "isinstance" = none) (hT : PE X (.Name x q) (tC (.ty T)))
    (h1 : starEach [e, .Name x q] X.env = (false, eval e X.env) :: starEach [.Name x q] X.env := by rfl) (h2 : starEach [.Name x q] X.env = (false, eval (.Name x q) X.env) :: starEach [] X.env := by rfl)
    (hpl : (backTo pos (starEach [.Name x q] X.env)).any (·.1) = false := by rfl) : DE X (.Call (.Name "isinstance" p) [e, .Name x q] [] pos) (f1 (isD T) fa) := by
  obtain ⟨t, pt, qt⟩ := he
  refine ⟨_, pe_callB call_isi hg hm (by decide +kernel) (pa_cons pt (pa_cons hT pa_nil h2) h1) (by decide) (by decide) h1 hpl, fun δ F own G H ρ γ σ d ρ' γ' Q R e k => ?_⟩
  obtain ⟨⟨x, ρ1, γ1⟩, e1, e⟩ := bind_some e
  obtain ⟨z, e3, e⟩ := map_some e
  cases e
  obtain ⟨b, e4, e5⟩ := map_some e3
  subst e5
  refine qt δ F own G H ρ γ σ x _ _ _ R e1 fun v G1 H1 R1 s1 r1 => ?_
  exact ⟨v, .ty T, .type (tyN x), .type T, b, rfl, .ty T, r1.ty R1.sub, kit_ty e4, k _ G1 H1 R1 s1 (.bl _)⟩

def blOf : D → Option Bool
  | .bool b => some b
  | _ => none
def blsOf : List D → Option (List Bool)
  | [] => some []
  | d :: ds => (blOf d).bind fun b => (blsOf ds).map fun bs => b :: bs
theorem blsOf_map : ∀ bs : List Bool, blsOf (bs.map PyData.bool) = some bs
  | [] => rfl
  | b :: r => by show (some b).bind _ = _; rw [Option.bind_some, blsOf_map r]; rfl
theorem Reps.bls {K : Fg} {G : Hp} : ∀ {vs : List V} {ds : List D} {bs : List Bool}, Reps K G vs ds → blsOf ds = some bs → vs = bs.map V.bl
  | _, _, _, .nil, h => by cases h; rfl
  | _, _, _, .cons (d := d) a b, h => by
    obtain ⟨y, e1, h⟩ := bind_some h
    obtain ⟨ys, e2, h⟩ := map_some h
    subst h
    cases d <;> simp only [blOf, reduceCtorEq, Option.some.injEq] at e1
    subst e1
    rw [a.bl_inv, Reps.bls b e2]; rfl
def allD : List D → Option D
  | [.list xs] => (blsOf xs).map fun bs => .bool (bs.all id)
  | _ => none
def anyD : List D → Option D
  | [.list xs] => (blsOf xs).map fun bs => .bool (bs.any id)
  | _ => none
theorem cd_all (O : Okc X) : CallR X (.builtin "all") (rsD X.K allD) := by
  intro pins s σ H xs us Q I r ⟨G, as, d, e, ra, hd, h⟩
  match as, hd with
  | [.list ys], hd =>
    obtain ⟨w, rfl, r1⟩ := one_inv ra
    obtain ⟨a, vs, rfl, hq, hs⟩ := r1.lst_inv
    obtain ⟨bs, e1, hd⟩ := map_some hd
    subst hd
    cases hs.bls e1
    exact cr_all O.calm pins s σ H _ us Q I r ⟨a, bs, rfl, e.seq hq, quiet_end e h (.bl _)⟩
theorem cd_any (O : Okc X) : CallR X (.builtin "any") (rsD X.K anyD) := by
  intro pins s σ H xs us Q I r ⟨G, as, d, e, ra, hd, h⟩
  match as, hd with
  | [.list ys], hd =>
    obtain ⟨w, rfl, r1⟩ := one_inv ra
    obtain ⟨a, vs, rfl, hq, hs⟩ := r1.lst_inv
    obtain ⟨bs, e1, hd⟩ := map_some hd
    subst hd
    cases hs.bls e1
    exact cr_any O.calm pins s σ H _ us Q I r ⟨a, bs, rfl, e.seq hq, quiet_end e h (.bl _)⟩

def fM (g : D → List D → Option D) (fa : Fx) (fr : Fs) : Fx := fun ρ γ => (fa ρ γ).bind fun p => (fr p.2.1 p.2.2).bind fun q => (g p.1 q.1).map fun z => (z, q.2)
theorem de_bmS {id : String} {name : Str} {o : Expr} {g : D → List D → Option D} (slot : Slot "str" name id) (hty : typeOf (.builtin id) = pure (.type "method_descriptor")) (hm : MtR X id (rmD X.K g)) (hT : ∀ a as d, g a as = some d → ∃ x, a = .str x)
    (ho : DE X o fa) (ha : DA X (e :: es) fs)
    (hbase : attributeBase o name X.env (eval o X.env) = eval o X.env := by rfl)
    (hfew : ((backTo cpos (starEach (e :: es) X.env)).all (fun x => !x.1) && (backToKw cpos (keywordEach [] X.env)).all (fun x => x.1.isSome)
      && decide ((e :: es).length + ([] : List Keyword).length + (if ([] : List Keyword).isEmpty then 0 else 1) < 30)) = true := by rfl)
    (hline : (apos.endLine == cpos.line) = true := by rfl) (hs : starEach (e :: es) X.env = (false, eval e X.env) :: starEach es X.env := by rfl) (hplain : (backTo cpos (starEach es X.env)).any (·.1) = false := by rfl) :
    DE X (.Call (.Attribute o name apos) (e :: es) [] cpos) (fM g fa fs) := by
  obtain ⟨ta, pa, qa⟩ := ho
  obtain ⟨tb, pb, qb⟩ := ha
  refine ⟨_, pe_bm PySem.F.plainAttrs_str slot hty hm pa pb hbase hfew hline hs hplain, fun δ F own G H ρ γ σ d ρ' γ' Q R e k => ?_⟩
  obtain ⟨⟨x, ρ1, γ1⟩, e1, e⟩ := bind_some e
  obtain ⟨⟨ys, ρ2, γ2⟩, e2, e⟩ := bind_some e
  obtain ⟨z, e3, e⟩ := map_some e
  cases e
  refine qa δ F own G H ρ γ σ x _ _ _ R e1 fun v G1 H1 R1 s1 r1 => ⟨?_, qb δ F own G1 H1 _ _ σ ys _ _ _ R1 e2 fun u G2 H2 R2 s2 r2 => ?_⟩
  · obtain ⟨y, hy⟩ := hT _ _ _ e3
    have hy : x = .str y := hy
    subst hy
    cases r1.str_inv
    exact rfl
  · exact ⟨G2, x, ys, d, R2.sub, r1.mono s2, r2, e3, fun w G' H' st r => k w G' H' (R2.step st) ((s1.trans s2).trans st.sg) r⟩
def strOf : D → Option Str
  | .str x => some x
  | _ => none
def strsOf : List D → Option (List Str)
  | [] => some []
  | d :: ds => (strOf d).bind fun b => (strsOf ds).map fun bs => b :: bs
theorem strsOf_map : ∀ bs : List Str, strsOf (bs.map PyData.str) = some bs
  | [] => rfl
  | b :: r => by show (some b).bind _ = _; rw [Option.bind_some, strsOf_map r]; rfl
theorem Reps.strs {K : Fg} {G : Hp} : ∀ {vs : List V} {ds : List D} {bs : List Str}, Reps K G vs ds → strsOf ds = some bs → vs = bs.map V.str
  | _, _, _, .nil, h => by cases h; rfl
  | _, _, _, .cons (d := d) a b, h => by
    obtain ⟨y, e1, h⟩ := bind_some h
    obtain ⟨ys, e2, h⟩ := map_some h
    subst h
    cases d <;> simp only [strOf, reduceCtorEq, Option.some.injEq] at e1
    subst e1
    rw [a.str_inv, Reps.strs b e2]; rfl
def joinD : D → List D → Option D
  | .str a, [.list ds] => (strsOf ds).bind fun ys => if (ys.map (·.length)).sum + ys.length * a.length ≤ 16777216 then some (.str (Txt.join a ys)) else none
  | .str a, [.tuple ds] => (strsOf ds).bind fun ys => if (ys.map (·.length)).sum + ys.length * a.length ≤ 16777216 then some (.str (Txt.join a ys)) else none
  | _, _ => none
theorem md_join : MtR X "str.join" (rmD X.K joinD) := by
  intro pins s σ H x xs v us Q I rx rs ⟨G, a, as, d, e, ra, rb, hd, h⟩
  match a, as, hd with
  | .str a, [.list ds], hd =>
    obtain ⟨w, rfl, r1⟩ := one_inv rb
    obtain ⟨l, vs, rfl, hq, hs⟩ := r1.lst_inv
    obtain ⟨ys, e1, hd⟩ := bind_some hd
    split at hd
    · rename_i hz
      cases hd
      cases ra.str_inv
      cases hs.strs e1
      exact mt_join pins s σ H _ _ v us Q I rx rs ⟨a, l, ys, rfl, rfl, Or.inl (e.seq hq), hz, quiet_end e h (.str _)⟩
    · cases hd
  | .str a, [.tuple ds], hd =>
    obtain ⟨w, rfl, r1⟩ := one_inv rb
    obtain ⟨l, vs, rfl, hq, hs⟩ := r1.tup_inv
    obtain ⟨ys, e1, hd⟩ := bind_some hd
    split at hd
    · rename_i hz
      cases hd
      cases ra.str_inv
      cases hs.strs e1
      exact mt_join pins s σ H _ _ v us Q I rx rs ⟨a, l, ys, rfl, rfl, Or.inr (sqt_same e hq), hz, quiet_end e h (.str _)⟩
    · cases hd
def findD : D → List D → Option D
  | .str a, [.str b] => some (.int (Txt.find a b))
  | _, _ => none
theorem md_find : MtR X "str.find" (rmD X.K findD) := by
  intro pins s σ H x xs v us Q I rx rs ⟨G, a, as, d, e, ra, rb, hd, h⟩
  match a, as, hd with
  | .str a, [.str b], hd =>
    obtain ⟨w, rfl, r1⟩ := one_inv rb
    cases hd
    cases ra.str_inv
    cases r1.str_inv
    exact mt_find pins s σ H _ _ v us Q I rx rs ⟨a, b, rfl, rfl, quiet_end e h (.int _)⟩
theorem joinD_str (a : D) (as : List D) (d : D) (h : joinD a as = some d) : ∃ x, a = .str x := by
  cases a with
  | str x => exact ⟨x, rfl⟩
  | _ => simp [joinD] at h
theorem findD_str (a : D) (as : List D) (d : D) (h : findD a as = some d) : ∃ x, a = .str x := by
  cases a with
  | str x => exact ⟨x, rfl⟩
  | _ => simp [findD] at h
end

mutual
/-- a bound of a text's length -/
def wgt : D → Nat
  | .none => 4
  | .bool _ => 5
  | .int i => i.natAbs.log2 + 2
  | .str x => 10 * x.length + 2
  | .list xs => wgts xs + 3
  | .tuple xs => wgts xs + 3
  | .dict _ => 0
def wgts : List D → Nat
  | [] => 0
  | d :: ds => wgt d + 2 + wgts ds
end
mutual
/-- codes that are codes -/
def codeOk : D → Bool
  | .str x => x.cps.toList.all fun c => decide (c < 4294967296)
  | .list xs => codesOk xs
  | .tuple xs => codesOk xs
  | _ => true
def codesOk : List D → Bool
  | [] => true
  | d :: ds => codeOk d && codesOk ds
end
mutual
theorem shown_le : ∀ d : D, d.plain = true → codeOk d = true → d.shown.length ≤ wgt d
  | .none, _, _ => by decide +kernel
  | .bool b, _, _ => by cases b <;> decide +kernel
  | .int i, _, _ => by
    simp only [PyData.shown, wgt]
    have := int_text_length_le (a := i) (k := i.natAbs.log2 + 1) (by omega) (by omega)
    have e : (Str.ofString (toString i)).length = (toString i).length := PySem.ofString_length _
    show (Str.ofString (toString i)).length ≤ _
    omega
  | .str x, _, h => by
    simp only [PyData.shown, wgt]
    refine StrLaws.reprText_len x fun c hc => ?_
    have := List.all_eq_true.mp h c hc
    have : c < 4294967296 := by simpa using this
    omega
  | .list xs, p, h => by
    simp only [PyData.shown, wgt]
    have h1 := listText_len_le (PyData.shownAll xs)
    have h2 := shown_les xs (by simpa only [PyData.plain] using p) (by simpa only [codeOk] using h)
    omega
  | .tuple xs, p, h => by
    simp only [PyData.shown, wgt]
    have h1 := tupleText_len_le (PyData.shownAll xs)
    have h2 := shown_les xs (by simpa only [PyData.plain] using p) (by simpa only [codeOk] using h)
    omega
  | .dict _, p, _ => by simp [PyData.plain] at p
theorem shown_les : ∀ ds : List D, PyData.plainAll ds = true → codesOk ds = true → ((PyData.shownAll ds).map (·.length)).sum + 2 * (PyData.shownAll ds).length ≤ wgts ds
  | [], _, _ => by simp [PyData.shownAll, wgts]
  | d :: ds, p, h => by
    simp only [PyData.plainAll, Bool.and_eq_true] at p
    simp only [codesOk, Bool.and_eq_true] at h
    have h1 := shown_le d p.1 h.1
    have h2 := shown_les ds p.2 h.2
    simp only [PyData.shownAll, wgts, List.map_cons, List.sum_cons, List.length_cons]
    omega
end
def reprD : List D → Option D
  | [d] => if d.plain ∧ d.showable ∧ codeOk d ∧ d.depth ≤ 60 ∧ wgt d ≤ 16777216 then some (.str d.shown) else none
  | _ => none
mutual
theorem plain_nodict : ∀ d : D, d.plain = true → d.hasDict = false
  | .none, _ => rfl
  | .bool _, _ => rfl
  | .int _, _ => rfl
  | .str _, _ => rfl
  | .list xs, h => by simp only [PyData.hasDict]; exact plains_nodict xs (by simpa only [PyData.plain] using h)
  | .tuple xs, h => by simp only [PyData.hasDict]; exact plains_nodict xs (by simpa only [PyData.plain] using h)
  | .dict _, h => by simp [PyData.plain] at h
theorem plains_nodict : ∀ ds : List D, PyData.plainAll ds = true → PyData.hasDictAll ds = false
  | [], _ => rfl
  | d :: ds, h => by
    simp only [PyData.plainAll, Bool.and_eq_true] at h
    simp only [PyData.hasDictAll, plain_nodict d h.1, plains_nodict ds h.2, Bool.or_self]
end
section
variable {X : Cx}
theorem cd_repr (O : Okc X) : CallR X (.builtin "repr") (rsD X.K reprD) := by
  intro pins s σ H xs us Q I r ⟨G, as, d, e, ra, hd, h⟩
  match as, hd with
  | [y], hd =>
    obtain ⟨w, rfl, r1⟩ := one_inv ra
    simp only [reprD] at hd
    split at hd
    case isFalse => cases hd
    rename_i hc
    cases hd
    obtain ⟨hp, hs, hk, hdp, hw⟩ := hc
    have hsz : y.shown.length ≤ sizeLine := by rw [sizeLine_eq]; exact Nat.le_trans (shown_le y hp hk) hw
    obtain ⟨u, rfl, ru⟩ := Vals.one r
    have q := quiet_end e h (.str _)
    have fin : ∀ (h' : Heap) (t : Tok) (tk : Nat), (∀ b o, s.heap.get? b = some o → h'.get? b = some o) → EP X pins σ Q (.str y.shown t) { s with heap := h', toks := tk } := fun h' t tk hk => ⟨.str _, H, I.kept hk, ⟨_, rfl⟩, q⟩
    have fin0 : ∀ (t : Tok) (tk : Nat), EP X pins σ Q (.str y.shown t) { s with toks := tk } := fun t tk => ⟨.str _, H, I.tok _, ⟨_, rfl⟩, q⟩
    have hu := O.hr.units
    cases y with
    | none => cases r1.non_inv; cases ru; exact PySem.P.repr_of_none (fin0 _ _)
    | bool b => cases r1.bl_inv; cases ru; exact PySem.P.repr_of_bool (fin0 _ _)
    | int i =>
      cases r1.int_inv
      obtain ⟨t, rfl⟩ := ru
      exact PySem.P.repr_of_int (by simpa [PyData.showable] using hs) (fin0 _ _)
    | str x =>
      cases r1.str_inv
      obtain ⟨t, rfl⟩ := ru
      exact PySem.P.repr_of_str (fin0 _ _) hsz
    | list zs =>
      obtain ⟨a, vs, rfl, _, _⟩ := r1.lst_inv
      cases ru
      obtain ⟨as, q1⟩ := Rep.reads I e (.list zs) _ _ hp r1 rfl
      exact repr_of_reads' q1 hs (PyData.noDict_hsm (plain_nodict _ hp)) O.hg (by omega) (fun _ _ z => z) (fun h' t tk hk => fin h' t tk hk) hsz
    | tuple zs =>
      obtain ⟨a, vs, rfl, _, _⟩ := r1.tup_inv
      cases ru
      obtain ⟨as, q1⟩ := Rep.reads I e (.tuple zs) _ _ hp r1 rfl
      exact repr_of_reads' q1 hs (PyData.noDict_hsm (plain_nodict _ hp)) O.hg (by omega) (fun _ _ z => z) (fun h' t tk hk => fin h' t tk hk) hsz
    | dict kvs => simp [PyData.plain] at hp
end
end DL

namespace DL
open PySem PySem.Spec PyProof.Rows L2

theorem reps_script {K : Fg} {G : Hp} (ns : List Int) : Reps K G (ns.map V.int) (ns.map PyData.int) := Reps.ints ns
section
variable {P : Program} {w : World} {K : Fg} {mg mb : Str → Option Value} {k : Nat} {fa a : Addr} {fd : FuncData} {x : Str} {fn : Fn} {s₁ : Shared} {vs : List Value} {ns : List Int}
theorem law_kp (KX : K.In s₁.heap) (hns : s₁.heap.Ns mainGlobals mg) (hb : s₁.heap.Ns builtinsNs mb) (hbb : ∀ x : Str, x ≠ "__name__" → mb x = bootBuiltins x) (hlim : s₁.heap.NoLimit) (hg : s₁.gens = #[])
    (ha : s₁.heap.get? a = some { cls := .type "list", data := .seq vs.toArray }) (hi : IntsAre vs ns) (hl : ns.length ≤ sizeLine) (hr : Room k callerA)
    (F : ∀ base : Heap, K.In base → base.Ns mainGlobals mg → Kp P w K mg base k fa fd [x] fn) (hbind : ∀ (s : Shared) (u : Value), BindsTo s fd ⟨[u], []⟩ [(x, u)])
    (hfn : ∃ γ, fn [.d (.list (ns.map PyData.int))] [] = some (.d (.bool true), γ)) :
    codeAny (model P w) callerA (.call (.ref fa) ⟨[.ref a], []⟩) (fun r s' => r = .ok (.ret (.bool true)) ∧ OldK s₁.heap s'.heap ∧ s'.os = s₁.os ∧ AllBare s'.gens) s₁ := by
  have rv := vals_ints hi
  have lenV := hi.length
  obtain ⟨γ1, hfn⟩ := hfn
  have core : ∀ H : Hp, (∀ b, H b = none ∨ ∃ o xs, H b = some (.frz o (.lst xs))) → SqX K H a (ns.map V.int) → HOk P w H s₁.heap → (∀ b, H b ≠ none → b = a ∧ K.lookup a = none) →
      codeAny (model P w) callerA (.call (.ref fa) ⟨[.ref a], []⟩) (fun r s' => r = .ok (.ret (.bool true)) ∧ OldK s₁.heap s'.heap ∧ s'.os = s₁.os ∧ AllBare s'.gens) s₁ := by
    intro H only hS hok hA
    have quiet : ∀ {b : Addr} {o : Obj}, s₁.heap.get? b = some o → (b = a → o.data ≠ .seq vs.toArray 0) → H b = none := fun {b o} e ne => by
      cases q : H b with
      | none => rfl
      | some u =>
        have e1 := (hA b (by rw [q]; intro z; cases z)).1
        rw [e1, ha] at e
        cases e
        exact absurd rfl (ne e1)
    have names : ∀ {b : Addr} {m : Str → Option Value}, s₁.heap.Ns b m → (hidT s₁.heap H).Ns b m := fun {b m} ⟨o, es, ep, e, d, r⟩ =>
      ⟨o, es, ep, hidT_get e (quiet e fun _ z => by rw [d] at z; cases z), d, r⟩
    have inB : K.In (hidT s₁.heap H) := fun b o e => hidT_get (KX b o e) (by
      cases q : H b with
      | none => rfl
      | some u =>
        obtain ⟨e1, e2⟩ := hA b (by rw [q]; intro z; cases z)
        rw [e1, e2] at e
        cases e)
    have hM : Mod K mg (hidT s₁.heap H) := ⟨inB, names hns, ⟨mb, names hb, hbb⟩, let ⟨mc, z1, z2⟩ := hlim; ⟨mc, names z1, z2⟩⟩
    have e0 : Env0 P w K mg (hidT s₁.heap H) callerA [] s₁ H := ⟨rfl, hM, fun b o e => of_hidT e, Nat.le_of_eq (hidT_size _ _), trivial, fun b hb => (nomatch hb), hok, .of_eq hg⟩
    refine codeAny_mono ((F _ inB (names hns)).run callerA [] s₁ H H ⟨[.ref a], []⟩ [.ref a] [.ref a] [] [.d (.list (ns.map PyData.int))] [] (.d (.bool true)) γ1 (fun v _ => v = .bl true) hr rfl e0 (hbind s₁ (.ref a)) (.cons rfl .nil) rfl
      ⟨Same.refl _, rfl, List.nodup_nil, fun b hb => (nomatch hb), fun n c hc => by simp at hc⟩ (.d (.lst hS (reps_script ns)) .nil) hfn fun v G' H' _ r => Rep.bl_inv r) fun r s' h => ?_
    cases r with
    | error e => exact False.elim h
    | ok fl =>
      cases fl with
      | next => exact False.elim h
      | brk => exact False.elim h
      | cont => exact False.elim h
      | ret u =>
        obtain ⟨v, H', os, bare, un, hok', r', q⟩ := h
        have q : v = .bl true := q
        subst q
        cases (show u = Value.bool true from r')
        refine ⟨rfl, OldK.of_keep fun b o e => ?_, os, bare⟩
        rcases only b with z | ⟨ob, xs, z⟩
        · exact un.keep b o e z (fun z => nomatch z) (fun z => nomatch z)
        · have e1 := (hok b _ z).1
          have e2 := (hok' b _ (un.frzs b ob _ z)).1
          rw [e] at e1
          cases e1
          exact e2
  cases hk : K.lookup a with
  | some o =>
    have e := KX a o hk
    rw [ha] at e
    cases e
    exact core (fun _ => none) (fun _ => Or.inl rfl) (Or.inr ⟨vs.toArray, 0, hk, by rw [List.size_toArray, lenV]; exact hl, by simpa using rv⟩) (fun b u z => nomatch z) (fun b z => absurd rfl z)
  | none =>
    refine core (fun b => if b = a then some (.frz { cls := .type "list", data := .seq vs.toArray } (.lst (ns.map V.int))) else none) (fun b => ?_) (Or.inl (Or.inr ⟨_, if_pos rfl⟩)) (fun b u z => ?_) fun b z => ?_
    · by_cases h : b = a
      · exact Or.inr ⟨_, _, if_pos h⟩
      · exact Or.inl (if_neg h)
    · by_cases h : b = a
      · have z := (if_pos h).symm.trans z
        cases z
        rw [h]
        exact ⟨ha, by rw [List.length_map]; exact hl, vs, _, rv, ha⟩
      · have z := (if_neg h).symm.trans z
        cases z
    · by_cases h : b = a
      · exact ⟨h, hk⟩
      · exact absurd (if_neg h) z
end
/-- the goal that the head leaves, from what the law's def computes at every script -/
theorem walk_kp {l : PySem.W.OpenLaw} {n k : Nat} {q : Program} {loose : List Str} {XP : (Str → Option Value) → Heap → Prop} {YP : World → Heap → Prop} {d : DefRec} {K : Params → Fg} {fn : Fn} {x : Str}
    (hn : l.most = some n) (hn2 : n ≤ sizeLine) (hdf : d.params.defaults = []) (hr : Room k callerA) (hY : ∀ (w : World) (h : Heap), YP w h → (K w.params).In h)
    (F : ∀ (w : World) (mg : Str → Option Value) (fa : Addr) (h : Heap), (K w.params).In h → h.Ns mainGlobals mg → mg d.name = some (.ref fa) →
      ∃ fd : FuncData, (∀ (s : Shared) (u : Value), BindsTo s fd ⟨[u], []⟩ [(x, u)]) ∧ ∀ base : Heap, (K w.params).In base → base.Ns mainGlobals mg → Kp l.prog w (K w.params) mg base k fa fd [x] fn)
    (hfn : ∀ ns : List Int, ns.length ≤ n → ∃ γ, fn [.d (.list (ns.map PyData.int))] [] = some (.d (.bool true), γ)) :
    PySem.W.WalkO q loose XP YP l.row.toRowW d [] (fun f vs => PySem.call f vs) := by
  refine Att.attach_call hn hdf fun w s₀ s₁ mg mb fa o pm cd doc a vs ns G Y ho hd hcd hmg hobj hints hlen hg => ?_
  have KX := hY w _ Y
  obtain ⟨fd, hb, hF⟩ := F w mg fa _ KX G.T.g hmg
  exact law_kp KX G.T.g G.T.b G.T.builtins G.T.nolimit hg hobj hints (Nat.le_trans hlen hn2) hr hF hb (hfn ns hlen)
end DL

namespace DL
open PySem PySem.Spec PyProof.Rows L2

/-- a sum of lists is a new list -/
def rCatO (K : Fg) : R2 := fun x y H Q => ∃ G xs ys, Same G H ∧ Rep K G x (.list xs) ∧ Rep K G y (.list ys) ∧ xs.length + ys.length ≤ sizeLine ∧ ∀ p vs, H p = none → Reps K G vs (xs ++ ys) → Q (.ref p) (upd H p (.lst vs))
def qCat (fa fb : Fx) : Fq := fun ρ γ => (fa ρ γ).bind fun p => (fb p.2.1 p.2.2).bind fun q => match p.1, q.1 with
  | .list xs, .list ys => if xs.length + ys.length ≤ sizeLine then some (.ol (xs ++ ys), q.2) else none
  | _, _ => none
/-- list(e) is a new list -/
def qList (fa : Fx) : Fq := fun ρ γ => (fa ρ γ).bind fun p => match p.1 with
  | .list xs => some (.ol xs, p.2)
  | .tuple xs => some (.ol xs, p.2)
  | _ => none
/-- xs * k is a new list -/
def sAsg (fa : Fx) (g : Fg1) : Fst := fun ρ γ => (fa ρ γ).bind fun p => (g p.1 p.2.1).map fun ρ1 => .nx ρ1 p.2.2
def fChain (g h : D → D → Option D) (fa fb fc : Fx) : Fx := fun ρ γ => (fa ρ γ).bind fun p => (fb p.2.1 p.2.2).bind fun q => (g p.1 q.1).bind fun z => match z with
  | .bool true => (fc q.2.1 q.2.2).bind fun r => (h q.1 r.1).map fun u => (u, r.2)
  | .bool false => some (.bool false, q.2)
  | _ => none
section
variable {X : Cx} {a b c e tg : Expr} {fa fb fc : Fx} {fs : Fs} {pos p : Pos}
theorem od_addL : OpR X (binaryOp .Add) (rCatO X.K) := by
  intro pins s σ H x y v u Q I rx ry ⟨G, xs, ys, e, ra, rb, hz, h⟩
  obtain ⟨p, vs, rfl, hp, hvs⟩ := ra.lst_rd
  obtain ⟨q, ws, rfl, hq, hws⟩ := rb.lst_rd
  cases rx
  cases ry
  obtain ⟨its, n1, r1, h1, z1⟩ := list_at I (sqx_same e hp)
  obtain ⟨its2, n2, r2, h2, z2⟩ := list_at I (sqx_same e hq)
  have hzz : its.toArray.size + its2.toArray.size ≤ sizeLine := by
    rw [List.size_toArray, List.size_toArray, ← r1.length, ← r2.length, hvs.length, hws.length]; exact hz
  refine PySem.P.add_list h1 h2 ?_ hzz
  have ea : its.toArray ++ its2.toArray = (its ++ its2).toArray := by simp
  rw [ea]
  have hzv : (vs ++ ws).length ≤ sizeLine := by rw [List.length_append, hvs.length, hws.length]; exact hz
  exact ⟨.ref _, _, I.lnew (t' := s.toks) (r1.append r2) hzv, rfl, h _ _ I.fresh (hvs.append hws)⟩
theorem dq_cat (ha : DE X a fa) (hb : DE X b fb) : DQ X (.BinOp a .Add b pos) (qCat fa fb) := by
  obtain ⟨ta, pa, qa⟩ := ha
  obtain ⟨tb, pb, qb⟩ := hb
  refine ⟨_, pe_op od_addL pa pb, fun δ F own G H ρ γ σ d ρ' γ' Q R e k => ?_⟩
  obtain ⟨⟨x, ρ1, γ1⟩, e1, e⟩ := bind_some e
  obtain ⟨⟨y, ρ2, γ2⟩, e2, e⟩ := bind_some e
  cases x <;> cases y <;> simp only [reduceCtorEq] at e
  split at e
  case isFalse => cases e
  rename_i hz
  cases e
  refine qa δ F own G H ρ γ σ _ _ _ _ R e1 fun v G1 H1 R1 s1 r1 => qb δ F own G1 H1 _ _ σ _ _ _ _ R1 e2 fun u G2 H2 R2 s2 r2 => ?_
  refine ⟨G2, _, _, R2.sub, r1.mono s2, r2, hz, fun p vs hp hs => ?_⟩
  exact k _ _ _ (R2.step (Step.own R2.sub hp (.lst vs))) (s1.trans s2) ⟨p, vs, rfl, R2.live hp, upd_same, hs⟩
theorem dq_list (ha : DE X e fa) (hg : Gl X "list") (hm : X.mg "list" = none) (he : starEach [e] X.env = (false, eval e X.env) :: starEach [] X.env := by rfl) (hpl : (backTo pos (starEach [] X.env)).any (·.1) = false := by rfl) :
    DQ X (.Call (.Name "list" p) [e] [] pos) (qList fa) := by
  obtain ⟨ta, pa, qa⟩ := ha
  refine ⟨_, pe_callTy call_list_of hg hm (by decide +kernel) (pa_cons pa pa_nil he) (by decide) (by decide) he hpl, fun δ F own G H ρ γ σ d ρ' γ' Q R e k => ?_⟩
  obtain ⟨⟨x, ρ1, γ1⟩, e1, e⟩ := bind_some e
  cases x with
  | list xs =>
    cases e
    refine qa δ F own G H ρ γ σ _ _ _ _ R e1 fun v G1 H1 R1 s1 r1 => ?_
    obtain ⟨l, vs, rfl, hq, hs⟩ := r1.lst_inv
    exact ⟨l, vs, rfl, Or.inl (R1.sub.seq hq), fun p hp => k _ _ _ (R1.step (Step.own R1.sub hp (.lst vs))) s1 ⟨p, vs, rfl, R1.live hp, upd_same, hs⟩⟩
  | tuple xs =>
    cases e
    refine qa δ F own G H ρ γ σ _ _ _ _ R e1 fun v G1 H1 R1 s1 r1 => ?_
    obtain ⟨l, vs, rfl, hq, hs⟩ := r1.tup_inv
    exact ⟨l, vs, rfl, Or.inr (sqt_same R1.sub hq), fun p hp => k _ _ _ (R1.step (Step.own R1.sub hp (.lst vs))) s1 ⟨p, vs, rfl, R1.live hp, upd_same, hs⟩⟩
  | _ => cases e
theorem de_chain {op op' : CmpOp} {g h : D → D → Option D} (ho : OpR X (compareOp op) (rD X.K g)) (ho' : OpR X (compareOp op') (rD X.K h)) (ha : DE X a fa) (hb : DE X b fb) (hc : DE X c fc)
    (hm : lastMarks [op, op'] [b, c] = false := by with_unfolding_all rfl) : DE X (.Compare a [op, op'] [b, c] pos) (fChain g h fa fb fc) := by
  obtain ⟨ta, pa, qa⟩ := ha
  obtain ⟨tb, pb, qb⟩ := hb
  obtain ⟨tc, pc, qc⟩ := hc
  refine ⟨_, pe_chain ho ho' pa pb pc hm, fun δ F own G H ρ γ σ d ρ' γ' Q R e k => ?_⟩
  obtain ⟨⟨x, ρ1, γ1⟩, e1, e⟩ := bind_some e
  obtain ⟨⟨y, ρ2, γ2⟩, e2, e⟩ := bind_some e
  obtain ⟨z, e3, e⟩ := bind_some e
  refine qa δ F own G H ρ γ σ x _ _ _ R e1 fun v G1 H1 R1 s1 r1 => qb δ F own G1 H1 _ _ σ y _ _ _ R1 e2 fun u G2 H2 R2 s2 r2 => ?_
  refine ⟨G2, x, y, z, R2.sub, r1.mono s2, r2, e3, fun w G3 H3 st r3 => ?_⟩
  split at e
  · cases r3.bl_inv
    obtain ⟨⟨c', ρ4, γ4⟩, e4, e⟩ := bind_some e
    obtain ⟨d', e5, e⟩ := map_some e
    cases e
    refine ⟨true, rfl, iteT (qc δ F own G3 H3 _ _ σ c' _ _ _ (R2.step st) e4 fun w' G4 H4 R4 s4 r4 => ?_)⟩
    exact ⟨G4, y, c', d, R4.sub, r2.mono (st.sg.trans s4), r4, e5, fun w2 G' H' st' r => k w2 G' H' (R4.step st') ((((s1.trans s2).trans st.sg).trans s4).trans st'.sg) r⟩
  · cases r3.bl_inv
    cases e
    exact ⟨false, rfl, iteF (k _ G3 H3 (R2.step st) ((s1.trans s2).trans st.sg) (.bl _))⟩
  · cases e
theorem ds_asg {ts : List Nat} {g : Fg1} (he : DE X e fa) (hg : DG X tg ts g) (hs : swapsWithSole [tg] e pos.line X.env = pure false := by rfl) (hw : swappedStores [tg] e X.env = pure none := by rfl)
    (h1 : (assignEach [tg] X.env).map (·.2) = [assign tg X.env] := by rfl) : DS X (.Assign [tg] e pos) (sAsg fa g) := by
  obtain ⟨ta, pa, qa⟩ := he
  obtain ⟨tb, pb, qb⟩ := hg
  refine ⟨_, ps_asg pa pb hs hw h1, fun δ F own G H ρ γ σ o E R e k => ?_⟩
  obtain ⟨⟨x, ρ1, γ1⟩, e1, e⟩ := bind_some e
  obtain ⟨ρ2, e2, e⟩ := map_some e
  cases e
  exact qa δ F own G H ρ γ σ x _ _ _ R e1 fun v G1 H1 R1 s1 r1 => qb δ F own G1 H1 _ _ σ v x _ _ R1 r1 e2 fun σ' R2 _ => k own G1 H1 σ' R2 s1
end
end DL

namespace DL
open PySem PySem.Spec PyProof.Rows L2

/-- ints, all of them -/
def intsOf : List D → Option (List Int)
  | [] => some []
  | d :: ds => (intOf d).bind fun i => (intsOf ds).map fun r => i :: r
theorem intsOf_some : ∀ {ds : List D} {ns : List Int}, intsOf ds = some ns → ds = ns.map PyData.int
  | [], ns, h => by cases h; rfl
  | d :: ds, ns, h => by
    simp only [intsOf] at h
    obtain ⟨i, e1, h⟩ := bind_some h
    obtain ⟨r, e2, h⟩ := map_some h
    cases h
    rw [intOf_some e1, intsOf_some e2]; rfl
theorem intsOf_map : ∀ ns : List Int, intsOf (ns.map PyData.int) = some ns
  | [] => rfl
  | n :: ns => by simp [intsOf, intOf, intsOf_map ns]

def insI (i : Int) : List Int → List Int
  | [] => [i]
  | j :: r => if i ≤ j then i :: j :: r else j :: insI i r
def srtI : List Int → List Int
  | [] => []
  | i :: r => insI i (srtI r)
theorem insI_perm (i : Int) : ∀ l : List Int, (insI i l).Perm (i :: l)
  | [] => .refl _
  | j :: r => by
    unfold insI
    split
    · exact .refl _
    · exact ((insI_perm i r).cons j).trans (.swap i j r)
theorem srtI_perm : ∀ l : List Int, (srtI l).Perm l
  | [] => .refl _
  | i :: r => (insI_perm i _).trans ((srtI_perm r).cons i)
theorem insI_pw (i : Int) : ∀ l : List Int, l.Pairwise (· ≤ ·) → (insI i l).Pairwise (· ≤ ·)
  | [], _ => by simp [insI]
  | j :: r, h => by
    have h1 := List.pairwise_cons.mp h
    unfold insI
    split
    · rename_i hle
      refine List.pairwise_cons.mpr ⟨fun a ha => ?_, h⟩
      rcases List.mem_cons.mp ha with z | z
      · rw [z]; exact hle
      · exact Int.le_trans hle (h1.1 a z)
    · rename_i hle
      refine List.pairwise_cons.mpr ⟨fun a ha => ?_, insI_pw i r h1.2⟩
      rcases List.mem_cons.mp ((insI_perm i r).mem_iff.mp ha) with z | z
      · rw [z]; omega
      · exact h1.1 a z
theorem srtI_pw : ∀ l : List Int, (srtI l).Pairwise (· ≤ ·)
  | [] => .nil
  | i :: r => insI_pw i _ (srtI_pw r)
theorem pw_uniq : ∀ {l m : List Int}, l.Pairwise (· ≤ ·) → m.Pairwise (· ≤ ·) → l.Perm m → l = m
  | [], m, _, _, h => by rw [List.nil_perm.mp h]
  | a :: l, [], _, _, h => by cases List.perm_nil.mp h
  | a :: l, b :: m, h1, h2, h => by
    have p1 := List.pairwise_cons.mp h1
    have p2 := List.pairwise_cons.mp h2
    have hab : b ≤ a := by
      rcases List.mem_cons.mp (h.mem_iff.mp List.mem_cons_self) with z | z
      · omega
      · exact p2.1 a z
    have hba : a ≤ b := by
      rcases List.mem_cons.mp (h.mem_iff.mpr List.mem_cons_self) with z | z
      · omega
      · exact p1.1 b z
    have e : a = b := by omega
    subst e
    rw [pw_uniq p1.2 p2.2 h.cons_inv]
theorem srt_uniq {l ns : List Int} (hp : ns.Perm l) (hs : ns.Pairwise (· ≤ ·)) : ns = srtI l := pw_uniq hs (srtI_pw l) (hp.trans (srtI_perm l).symm)

def fTupO (fa : Fx) : Fx := fun ρ γ => (fa ρ γ).bind fun p => match p.1 with
  | .list xs => some (.tuple xs, p.2)
  | .tuple xs => some (.tuple xs, p.2)
  | _ => none
def rgOk (a b : Int) : Bool := inB 4611686018427387904 a && inB 4611686018427387904 b && decide ((b - a).toNat ≤ 2 ^ 24)
theorem rgOk_ok {a b : Int} (h : rgOk a b = true) : RgOk a b := by
  unfold rgOk at h
  simp only [Bool.and_eq_true, decide_eq_true_eq] at h
  exact ⟨(inB62 h.1.1).1, (inB62 h.1.1).2, (inB62 h.1.2).1, (inB62 h.1.2).2, h.2⟩
def rgDs (a b : Int) : List D := (List.range (b - a).toNat).map fun i => .int (a + (i : Nat))
/-- the items of range(..) that is no iterable of a for -/
def fR1 (fa : Fx) : Fs := fun ρ γ => (fa ρ γ).bind fun p => (intOf p.1).bind fun n => if rgOk 0 n then some (rgDs 0 n, p.2) else none
def fR2 (fa fb : Fx) : Fs := fun ρ γ => (fa ρ γ).bind fun p => (fb p.2.1 p.2.2).bind fun q => (intOf p.1).bind fun m => (intOf q.1).bind fun n => if rgOk m n then some (rgDs m n, q.2) else none
def fTupR (fr : Fs) : Fx := fun ρ γ => (fr ρ γ).map fun p => (.tuple p.1, p.2)
def qLR (fr : Fs) : Fq := fun ρ γ => (fr ρ γ).map fun p => (.ol p.1, p.2)
def qSrt (fa : Fx) : Fq := fun ρ γ => (fa ρ γ).bind fun p => (match p.1 with
  | .list xs => intsOf xs
  | .tuple xs => intsOf xs
  | _ => none).map fun ns => (.ol ((srtI ns).map PyData.int), p.2)
/-- [x] * n, a new list -/
def qRep (fa fb : Fx) : Fq := fun ρ γ => (fa ρ γ).bind fun p => (fb p.2.1 p.2.2).bind fun q => match p.1, q.1 with
  | .list xs, .int k => if inB 9223372036854775808 k = true ∧ xs.length * k.toNat ≤ sizeLine then some (.ol (List.replicate k.toNat xs).flatten, q.2) else none
  | _, _ => none
def isBD : D → D → Option D
  | .bool a, .bool b => some (.bool (decide (a = b)))
  | _, _ => none
def isNBD : D → D → Option D
  | .bool a, .bool b => some (.bool (!decide (a = b)))
  | _, _ => none
def minI (i : Int) (l : List Int) : Int := l.foldl (fun a y => if y < a then y else a) i
def min1D : List D → Option D
  | [.list xs] => (intsOf xs).bind fun ns => match ns with
    | [] => none
    | n :: r => some (.int (minI n r))
  | [.tuple xs] => (intsOf xs).bind fun ns => match ns with
    | [] => none
    | n :: r => some (.int (minI n r))
  | _ => none
def indexD : D → List D → Option D
  | .tuple xs, [.int i] => (intsOf xs).bind fun ns => if i ∈ ns then some (.int (ns.idxOf i)) else none
  | _, _ => none
/-- a starred item ahead -/
def fStar (fa : Fx) (fr : Fs) : Fs := fun ρ γ => (fa ρ γ).bind fun p => (itemsLT p.1).bind fun xs => (fr p.2.1 p.2.2).map fun q => (xs ++ q.1, q.2)
where itemsLT : D → Option (List D)
  | .list xs => some xs
  | .tuple xs => some xs
  | _ => none
section
variable {X : Cx} {a b c e tg : Expr} {es : List Expr} {fa fb fc : Fx} {fs fr : Fs} {pos p apos cpos : Pos}
/-- tuple(x), its object known -/
def kTupF (K : Fg) (x : V) (H : Hp) (Q : VK) : Prop := (∃ p xs, x = .ref p ∧ SqL K H p xs ∧ ∀ q us, H q = none → Q (.ref q) (upd H q (.frz (tupO us) (.tup xs)))) ∨ (∃ p xs, x = .ref p ∧ SqT K H p xs ∧ Q (.ref p) H)
theorem pe_tupOfF (hg : Gl X "tuple") (hm : X.mg "tuple" = none) {ta : TE} (ha : PE X e ta) (na : starEach [e] X.env = (false, eval e X.env) :: starEach [] X.env) :
    PE X (.Call (.Name "tuple" p) [e] [] pos) (tThen ta (kTupF X.K)) := by
  refine ⟨fun pins s σ H Q I h => ?_⟩
  refine Call_ (ld_blt I hg hm boot_tuple (PyProof.Rows.callWith_type1 (one_arg ha I h (fun v s2 x H2 I2 r q => ?_) na) na))
  rcases q with ⟨p, xs, rfl, hs, q⟩ | ⟨p, xs, rfl, hs, q⟩
  · obtain rfl : v = .ref p := r
    obtain ⟨its, rv, pl, hz⟩ := I2.list hs
    refine call_tuple_list pl.isList (fun h' hk => ?_) (by rw [List.size_toArray, ← rv.length]; exact hz)
    have I1 : Inv X pins σ H2 { s2 with heap := h' } := I2.kept (t' := s2.toks) hk
    exact ⟨.ref h'.objs.size, _, lay_tup (s := { s2 with heap := h' }) (tk := s2.toks) I1 (fun _ _ z => z) (Nat.le_refl _) rv hz, rfl, q _ its (I1.hok.fresh (Nat.le_refl _))⟩
  · obtain rfl : v = .ref p := r
    obtain ⟨its, rv, pl, hz⟩ := I2.tuple hs
    exact call_tuple_tup pl ⟨.ref p, H2, I2, rfl, q⟩
def tTupRgF (te : L2.St → Hp → (Int → Int → Hp → Prop) → Prop) : TE := fun σ H Q => te σ H fun a b H1 => RgOk a b ∧ ∀ q us, H1 q = none → Q (.ref q) (upd H1 q (.frz (tupO us) (.tup (rgV a b))))
theorem pe_tupRgF {te : L2.St → Hp → (Int → Int → Hp → Prop) → Prop} (hc : X.calm = true) (hg : Gl X "tuple") (hm : X.mg "tuple" = none) (he : PRg X e te) (na : starEach [e] X.env = (false, eval e X.env) :: starEach [] X.env) : PE X (.Call (.Name "tuple" p) [e] [] pos) (tTupRgF te) := by
  refine ⟨fun pins s σ H Q I h => ?_⟩
  refine Call_ (ld_blt I hg hm boot_tuple (PyProof.Rows.callWith_type1 (args_cons (thn (he pins s σ H _ I h) fun x s1 ⟨r, a, b, t, u, v, H1, ex, hr, I1, ok, q⟩ => args_nil ?_) na) na))
  subst ex
  obtain ⟨b1, b2, b3, b4, b5⟩ := ok
  refine call_tuple_range (n := (b - a).toNat) (I1.ok.hd hc) hr (small_one b1 b2 b3 b4) (rangeSize_nat a b) b5 fun h' tk acc hk hi => ?_
  have I2 : Inv X pins σ H1 { s1 with heap := h', toks := tk } := I1.kept hk
  have ea : acc.toList.toArray = acc := Array.toArray_toList
  have z := lay_tup (s := { s1 with heap := h', toks := tk }) (tk := tk) I2 (fun _ _ z => z) (Nat.le_refl _) (vals_rg hi) (by rw [rgV_length, sizeLine_eq]; omega)
  unfold tupO at z
  rw [ea] at z
  refine ⟨.ref h'.objs.size, _, z, rfl, ?_⟩
  have q' := q _ acc.toList (I2.hok.fresh (Nat.le_refl _))
  unfold tupO at q'
  rw [ea] at q'
  exact q'
theorem de_tupOf (ha : DE X e fa) (hg : Gl X "tuple") (hm : X.mg "tuple" = none) (na : starEach [e] X.env = (false, eval e X.env) :: starEach [] X.env := by rfl) : DE X (.Call (.Name "tuple" p) [e] [] pos) (fTupO fa) := by
  obtain ⟨ta, pa, qa⟩ := ha
  refine ⟨_, pe_tupOfF hg hm pa na, fun δ F own G H ρ γ σ d ρ' γ' Q R e k => ?_⟩
  obtain ⟨⟨x, ρ1, γ1⟩, e1, e⟩ := bind_some e
  cases x with
  | list xs =>
    cases e
    refine qa δ F own G H ρ γ σ _ _ _ _ R e1 fun v G1 H1 R1 s1 r1 => ?_
    obtain ⟨l, vs, rfl, hq, hs⟩ := r1.lst_inv
    refine Or.inl ⟨l, vs, rfl, R1.sub.seq hq, fun q us hq' => ?_⟩
    have st := Step.new R1.sub hq' (.frz (tupO us) (.tup vs))
    exact k _ _ _ (R1.step st) (s1.trans st.sg) (.tup (SqD.of upd_same rfl) (hs.mono st.sg))
  | tuple xs =>
    cases e
    refine qa δ F own G H ρ γ σ _ _ _ _ R e1 fun v G1 H1 R1 s1 r1 => ?_
    have r1' := r1
    obtain ⟨l, vs, rfl, hq, hs⟩ := r1.tup_inv
    exact Or.inr ⟨l, vs, rfl, sqt_same R1.sub hq, k _ _ _ R1 s1 r1'⟩
  | _ => cases e

def DRg (X : Cx) (e : Expr) (f : Fs) : Prop := ∃ t, PRg X e t ∧ ∀ (δ : List Addr) (F : Fm) (own : Nat → Addr) (G H : Hp) (ρ : Row) (γ : Bxs) (σ : L2.St) (ds : List D) (ρ' : Row) (γ' : Bxs) (Q : Int → Int → Hp → Prop),
  Rel X.K δ F own G H ρ γ σ → f ρ γ = some (ds, ρ', γ') → (∀ a b G' H', Rel X.K δ F own G' H' ρ' γ' σ → Same G G' → RgOk a b → ds = rgDs a b → Q a b H') → t σ H Q
theorem drg_1 (ha : DE X a fa) (hg : Gl X "range") (hm : X.mg "range" = none) (na : starEach [a] X.env = (false, eval a X.env) :: starEach [] X.env := by rfl) : DRg X (.Call (.Name "range" p) [a] [] pos) (fR1 fa) := by
  obtain ⟨ta, pa, qa⟩ := ha
  refine ⟨_, prg_1 hg hm pa na, fun δ F own G H ρ γ σ d ρ' γ' Q R e k => ?_⟩
  obtain ⟨⟨x, ρ1, γ1⟩, e1, e⟩ := bind_some e
  obtain ⟨n, e2, e⟩ := bind_some e
  split at e
  case isFalse => cases e
  rename_i hok
  cases e
  refine qa δ F own G H ρ γ σ _ _ _ _ R e1 fun v G1 H1 R1 s1 r1 => ?_
  have e2 : intOf x = some n := e2
  rw [intOf_some e2] at r1
  exact ⟨n, r1.int_inv, k 0 n G1 H1 R1 s1 (rgOk_ok hok) rfl⟩
theorem drg_2 (ha : DE X a fa) (hb : DE X b fb) (hg : Gl X "range") (hm : X.mg "range" = none) (na : starEach [a, b] X.env = (false, eval a X.env) :: starEach [b] X.env := by rfl)
    (nb : starEach [b] X.env = (false, eval b X.env) :: starEach [] X.env := by rfl) (hp : (backTo pos (starEach [b] X.env)).any (·.1) = false := by rfl) : DRg X (.Call (.Name "range" p) [a, b] [] pos) (fR2 fa fb) := by
  obtain ⟨ta, pa, qa⟩ := ha
  obtain ⟨tb, pb, qb⟩ := hb
  refine ⟨_, prg_2 hg hm pa pb na nb hp, fun δ F own G H ρ γ σ d ρ' γ' Q R e k => ?_⟩
  obtain ⟨⟨x, ρ1, γ1⟩, e1, e⟩ := bind_some e
  obtain ⟨⟨y, ρ2, γ2⟩, e3, e⟩ := bind_some e
  obtain ⟨m, e2, e⟩ := bind_some e
  obtain ⟨n, e4, e⟩ := bind_some e
  split at e
  case isFalse => cases e
  rename_i hok
  cases e
  refine qa δ F own G H ρ γ σ _ _ _ _ R e1 fun v G1 H1 R1 s1 r1 => qb δ F own G1 H1 _ _ σ _ _ _ _ R1 e3 fun w G2 H2 R2 s2 r2 => ?_
  have e2 : intOf x = some m := e2
  have e4 : intOf y = some n := e4
  rw [intOf_some e2] at r1
  rw [intOf_some e4] at r2
  exact ⟨m, n, r1.int_inv, r2.int_inv, k m n G2 H2 R2 (s1.trans s2) (rgOk_ok hok) rfl⟩
theorem reps_rg {K : Fg} {G : Hp} (a b : Int) : Reps K G (rgV a b) (rgDs a b) := by
  unfold rgV rgDs
  have h := Reps.ints (K := K) (G := G) ((List.range (b - a).toNat).map fun i => a + (i : Nat))
  rw [List.map_map, List.map_map] at h
  exact h
theorem de_tupRg (hr : DRg X e fr) (O : Okc X) (hg : Gl X "tuple") (hm : X.mg "tuple" = none) (na : starEach [e] X.env = (false, eval e X.env) :: starEach [] X.env := by rfl) : DE X (.Call (.Name "tuple" p) [e] [] pos) (fTupR fr) := by
  obtain ⟨ta, pa, qa⟩ := hr
  refine ⟨_, pe_tupRgF O.calm hg hm pa na, fun δ F own G H ρ γ σ d ρ' γ' Q R e k => ?_⟩
  obtain ⟨⟨x, ρ1, γ1⟩, e1, e⟩ := map_some e
  cases e
  refine qa δ F own G H ρ γ σ _ _ _ _ R e1 fun a b G1 H1 R1 s1 hok ed => ⟨hok, fun q us hq => ?_⟩
  have ed : x = rgDs a b := ed
  subst ed
  have st := Step.new R1.sub hq (.frz (tupO us) (.tup (rgV a b)))
  exact k _ _ _ (R1.step st) (s1.trans st.sg) (.tup (SqD.of upd_same rfl) (reps_rg a b))
theorem dq_listRg (hr : DRg X e fr) (O : Okc X) (hg : Gl X "list") (hm : X.mg "list" = none) (na : starEach [e] X.env = (false, eval e X.env) :: starEach [] X.env := by rfl) : DQ X (.Call (.Name "list" p) [e] [] pos) (qLR fr) := by
  obtain ⟨ta, pa, qa⟩ := hr
  refine ⟨_, pe_listRg O.calm hg hm pa na, fun δ F own G H ρ γ σ d ρ' γ' Q R e k => ?_⟩
  obtain ⟨⟨x, ρ1, γ1⟩, e1, e⟩ := map_some e
  cases e
  refine qa δ F own G H ρ γ σ _ _ _ _ R e1 fun a b G1 H1 R1 s1 hok ed => ⟨hok, fun q hq => ?_⟩
  have ed : x = rgDs a b := ed
  subst ed
  exact k _ _ _ (R1.step (Step.own R1.sub hq (.lst (rgV a b)))) s1 ⟨q, _, rfl, R1.live hq, upd_same, reps_rg a b⟩

theorem od_is : OpR X (compareOp .Is) (rD X.K isBD) := by
  intro pins s σ H x y v u Q I rx ry ⟨G, a, b, d, e, ra, rb, hd, h⟩
  cases a <;> cases b <;> simp only [isBD, reduceCtorEq, Option.some.injEq] at hd
  cases hd; cases ra.bl_inv; cases rb.bl_inv
  exact op_isBl pins s σ H _ _ v u Q I rx ry ⟨_, _, rfl, rfl, quiet_end e h (.bl _)⟩
theorem od_isNot : OpR X (compareOp .IsNot) (rD X.K isNBD) := by
  intro pins s σ H x y v u Q I rx ry ⟨G, a, b, d, e, ra, rb, hd, h⟩
  cases a <;> cases b <;> simp only [isNBD, reduceCtorEq, Option.some.injEq] at hd
  cases hd; cases ra.bl_inv; cases rb.bl_inv
  exact op_notBl pins s σ H _ _ v u Q I rx ry ⟨_, _, rfl, rfl, quiet_end e h (.bl _)⟩

def rRepO (K : Fg) : R2 := fun x y H Q => ∃ G xs k, Same G H ∧ Rep K G x (.list xs) ∧ y = .int k ∧ (inB 9223372036854775808 k = true ∧ xs.length * k.toNat ≤ sizeLine) ∧ ∀ p vs, H p = none → Reps K G vs (List.replicate k.toNat xs).flatten → Q (.ref p) (upd H p (.lst vs))
theorem od_repL : OpR X (binaryOp .Mult) (rRepO X.K) := by
  intro pins s σ H x y v u Q I rx ry ⟨G, xs, k, e, ra, hy, hc, h⟩
  subst hy
  obtain ⟨hB, hz⟩ := hc
  obtain ⟨h1, h2⟩ := inB63 hB
  obtain ⟨l, vs, rfl, hl, hvs⟩ := ra.lst_rd
  cases rx
  obtain ⟨t, rfl⟩ := ry
  obtain ⟨its, n, r, g, z⟩ := list_at I (sqx_same e hl)
  have hn : its.length = xs.length := by rw [← r.length, hvs.length]
  have hlen : its.toArray.size * k.toNat ≤ sizeLine := by rw [List.size_toArray, hn]; exact hz
  have hcap : ¬ its.toArray.size * k.toNat > (2 ^ 63 - 1) / 8 := by
    rw [sizeLine_eq] at hlen
    have : (16777216 : Nat) ≤ (2 ^ 63 - 1) / 8 := by decide
    omega
  have hfit : ¬ (!Builtin.List.listFitsIndex k) = true := by
    rw [fitsIndex_both h1 h2]; exact Bool.false_ne_true
  have hlong : ¬ Builtin.List.listTooLong (its.toArray.size * k.toNat) = true := by
    rw [notLongL hlen]; exact Bool.false_ne_true
  have hnew : List.foldl (fun x1 x2 => x1 ++ x2) #[] (List.replicate (if its.toArray.isEmpty = true then 0 else k.toNat) its.toArray) = (List.replicate k.toNat its).flatten.toArray := by
    have f0 : ∀ m : Nat, List.foldl (fun x1 x2 => x1 ++ x2) #[] (List.replicate m its.toArray) = (List.replicate m its).flatten.toArray := fun m => by
      have := foldl_rep its m []
      rw [List.nil_append] at this
      exact this
    rw [f0]
    cases its with
    | nil => simp
    | cons a r' => rw [if_neg (by simp)]
  have hzv : (List.replicate k.toNat vs).flatten.length ≤ sizeLine := by
    rw [PyProof.Rows.lm_len_rep_flat, hvs.length, Nat.mul_comm]; exact hz
  refine wpAny_binaryOp_repeat_ref (T := "list") (U := "int") (by decide) ⟨_, g, rfl⟩ (fun s' => typeIs_int s' k t) noFill_list_mul F.fills_int_mul F.slot_int_rmul repeat_list F.slot_int_index.lookup
    (call_meets F.slot_int_rmul (typeIs_int s k t) F.entry_int_rmul (F.args_int_rmul_2 _ _) (int___rmul___int_list k t l its.toArray n)
      ⟨g, rfl, ⟨_, g, rfl⟩, call_meets F.slot_list_mul ⟨_, g, rfl⟩ F.entry_list_mul (F.args_list_mul_2 _ _) (AutoListH.list___mul___list_int_3 l its.toArray n k t hfit hcap hlong) ⟨g, ?_⟩⟩)
  rw [hnew]
  exact ⟨.ref _, _, I.lnew (t' := s.toks) (r.rep k.toNat) hzv, rfl, h _ _ I.fresh (hvs.rep k.toNat)⟩
theorem dq_rep (ha : DE X a fa) (hb : DE X b fb) : DQ X (.BinOp a .Mult b pos) (qRep fa fb) := by
  obtain ⟨ta, pa, qa⟩ := ha
  obtain ⟨tb, pb, qb⟩ := hb
  refine ⟨_, pe_op od_repL pa pb, fun δ F own G H ρ γ σ d ρ' γ' Q R e k => ?_⟩
  obtain ⟨⟨x, ρ1, γ1⟩, e1, e⟩ := bind_some e
  obtain ⟨⟨y, ρ2, γ2⟩, e2, e⟩ := bind_some e
  cases x <;> cases y <;> simp only [reduceCtorEq] at e
  split at e
  case isFalse => cases e
  rename_i hz
  cases e
  refine qa δ F own G H ρ γ σ _ _ _ _ R e1 fun v G1 H1 R1 s1 r1 => qb δ F own G1 H1 _ _ σ _ _ _ _ R1 e2 fun u G2 H2 R2 s2 r2 => ?_
  refine ⟨G2, _, _, R2.sub, r1.mono s2, r2.int_inv, hz, fun p vs hp hs => ?_⟩
  exact k _ _ _ (R2.step (Step.own R2.sub hp (.lst vs))) (s1.trans s2) ⟨p, vs, rfl, R2.live hp, upd_same, hs⟩

theorem da_star (ha : DE X e fa) (hr : DA X es fs) (hs : starEach (.Starred e p :: es) X.env = (true, eval e X.env) :: starEach es X.env := by rfl) : DA X (.Starred e p :: es) (fStar fa fs) := by
  obtain ⟨ta, pa, qa⟩ := ha
  obtain ⟨tb, pb, qb⟩ := hr
  refine ⟨_, StX.pa_star pa pb hs, fun δ F own G H ρ γ σ d ρ' γ' Q R e k => ?_⟩
  obtain ⟨⟨x, ρ1, γ1⟩, e1, e⟩ := bind_some e
  obtain ⟨xs, e3, e⟩ := bind_some e
  obtain ⟨⟨y, ρ2, γ2⟩, e2, e⟩ := map_some e
  cases e
  refine qa δ F own G H ρ γ σ x _ _ _ R e1 fun v G1 H1 R1 s1 r1 => ?_
  cases x with
  | list zs =>
    cases e3
    obtain ⟨l, vs, rfl, hq, hsv⟩ := r1.lst_inv
    exact ⟨l, vs, rfl, Or.inr (R1.sub.seq hq), qb δ F own G1 H1 _ _ σ y _ _ _ R1 e2 fun u G2 H2 R2 s2 r2 => k _ G2 H2 R2 (s1.trans s2) ((hsv.mono s2).append r2)⟩
  | tuple zs =>
    cases e3
    obtain ⟨l, vs, rfl, hq, hsv⟩ := r1.tup_inv
    exact ⟨l, vs, rfl, Or.inl (sqt_same R1.sub hq), qb δ F own G1 H1 _ _ σ y _ _ _ R1 e2 fun u G2 H2 R2 s2 r2 => k _ G2 H2 R2 (s1.trans s2) ((hsv.mono s2).append r2)⟩
  | _ => cases e3
end
end DL

namespace DL
open PySem PySem.Spec PyProof.Rows L2

section
variable {prog : Program} {w : World} {A : Around} {E : Value → Shared → Prop} {s : Shared}
/-- sorted of a tuple of ints -/
theorem sorted_tupI {l : Addr} {vs : List Value} {ns : List Int} {Q : Value → Shared → Prop} (hl : s.heap.IsTuple l vs.toArray) (hI : IntsAre vs ns) (hz : vs.length ≤ sizeLine)
    (h : ∀ (h1 h' : Heap) (out : List Value) (c : Nat), (∀ b o, s.heap.get? b = some o → h1.get? b = some o) → (∀ b o, h1.get? b = some o → h'.get? b = some o) → h'.get? h1.objs.size = some (seqObj "list" out.toArray c) →
      IntsAre out (out.map SrtO.iv) → (out.map SrtO.iv).Perm ns → (out.map SrtO.iv).Pairwise (· ≤ ·) → Q (.ref h1.objs.size) { s with heap := h' }) :
    wpAny (model prog w) A (call (.builtin "sorted") [.ref l]) Q E s := by
  obtain ⟨o, ho, hc, n, hd⟩ := hl
  refine Calls.call_function_entry PyProof.Rows.kind_sorted PyProof.Rows.plain_sorted entry_sorted (args_sorted1 _) ?_
  unfold Builtin.«sorted»
  refine wpAny_bind (m := checkCount "sorted" 1 1 _) (wpAny_pure ?_)
  refine wpAny_bind (wpAny_collect_seq l (.inr rfl) ho hc hd (fun h1 k1 => ?_) (by rw [List.size_toArray]; exact hz))
  have e0 : vs.toArray.toList = vs := by simp
  rw [e0]
  refine wpAny_bind (wpAny_newList ?_ hz)
  have hoL : (h1.push (seqObj "list" vs.toArray 0)).get? h1.objs.size = some (seqObj "list" vs.toArray 0) := Heap.get?_push_size _ rfl
  show wpAny _ _ _ _ _ { s with heap := h1.push (seqObj "list" vs.toArray 0) }
  refine wpAny_bind (wpAny_holding (wpAny_call_entry slot_list_sort ⟨_, hoL, rfl⟩ entry_list_sort (SrtO.list_sort_ord (s := { s with heap := h1.push (seqObj "list" vs.toArray 0) }) SrtO.swo_int hoL hz (fun h2 => SrtO.ints_sortable hI h2) fun out hs hb => ⟨_, rfl, ?_⟩) (args_list_sort _)))
  obtain ⟨k1', k2, k3⟩ := SrtO.ints_out hI hs hb
  obtain ⟨c, hc'⟩ := sortedHeap_at (vs := vs) (out := out.toArray) hoL
  refine wpAny_pure ⟨_, rfl, h h1 _ out c k1 (fun b o q => ?_) hc' k1' k2 k3⟩
  have lt1 : b < h1.objs.size := Heap.lt_size q
  rw [sortedHeap_old (Nat.ne_of_lt lt1) (by rw [size_push']; exact Nat.lt_succ_of_lt lt1)]
  exact Heap.get?_push_of_some _ q
end

section
variable {X : Cx} {a b c e tg : Expr} {es : List Expr} {fa fb fc : Fx} {fs fr : Fs} {pos p apos cpos : Pos}
def rSortIT (K : Fg) : List V → Hp → VK → Prop := fun vs H Q => ∃ (a : Addr) (ns : List Int), vs = [V.ref a] ∧ (SqL K H a (ns.map V.int) ∨ SqT K H a (ns.map V.int)) ∧ ∀ (p : Addr), H p = none → Q (.ref p) (upd H p (.lst ((srtI ns).map V.int)))
theorem cr_sortIT : CallR X (.builtin "sorted") (rSortIT X.K) := by
  intro pins s σ H vs us Q I r h
  obtain ⟨a, ns, rfl, hs | hs, q⟩ := h
  · exact cr_sortedI pins s σ H _ us Q I r ⟨a, ns, rfl, hs, fun ns' p hp hw hn => by rw [srt_uniq hp hw]; exact q p hn⟩
  · obtain ⟨its, rv, hl, hz⟩ := I.tuple hs
    rw [Vals.ref1 r]
    have hi := rv.ints
    refine sorted_tupI hl hi (by rw [← rv.length]; exact hz) fun h1 h' out c kp kp2 hg k1 k2 k3 => ?_
    have e := srt_uniq k2 k3
    have hlen : ((out.map SrtO.iv).map V.int).length ≤ sizeLine := by
      rw [List.length_map, k2.length_eq]
      rw [List.length_map] at hz
      exact hz
    have I1 : Inv X pins σ H { s with heap := h1 } := I.kept (t' := s.toks) kp
    refine ⟨.ref h1.objs.size, upd H h1.objs.size (.lst ((out.map SrtO.iv).map V.int)), I1.laid (t' := s.toks) kp2 (Nat.le_refl _) ⟨hlen, out, c, vals_of_ints k1, hg⟩, rfl, ?_⟩
    rw [e]
    exact q _ (I1.hok.fresh (Nat.le_refl _))
theorem Reps.int_vs {K : Fg} {G : Hp} {vs : List V} {ds : List D} {ns : List Int} (h : Reps K G vs ds) (e : intsOf ds = some ns) : vs = ns.map V.int := by
  rw [intsOf_some e] at h
  exact h.ints_inv
theorem dq_srt (ha : DE X e fa) (hg : Gl X "sorted") (hm : X.mg "sorted" = none) (he : starEach [e] X.env = (false, eval e X.env) :: starEach [] X.env := by rfl) (hpl : (backTo pos (starEach [] X.env)).any (·.1) = false := by rfl) :
    DQ X (.Call (.Name "sorted" p) [e] [] pos) (qSrt fa) := by
  obtain ⟨ta, pa, qa⟩ := ha
  refine ⟨_, pe_callB cr_sortIT hg hm (by decide +kernel) (pa_cons pa pa_nil he) (by decide) (by decide) he hpl, fun δ F own G H ρ γ σ d ρ' γ' Q R e k => ?_⟩
  obtain ⟨⟨x, ρ1, γ1⟩, e1, e⟩ := bind_some e
  obtain ⟨ns, e2, e⟩ := map_some e
  cases e
  refine qa δ F own G H ρ γ σ _ _ _ _ R e1 fun v G1 H1 R1 s1 r1 => ?_
  cases x with
  | list xs =>
    obtain ⟨l, vs, rfl, hq, hs⟩ := r1.lst_inv
    rw [hs.int_vs e2] at hq
    exact ⟨l, ns, rfl, Or.inl (R1.sub.seq hq), fun p hp => k _ _ _ (R1.step (Step.own R1.sub hp _)) s1 ⟨p, _, rfl, R1.live hp, upd_same, Reps.ints _⟩⟩
  | tuple xs =>
    obtain ⟨l, vs, rfl, hq, hs⟩ := r1.tup_inv
    rw [hs.int_vs e2] at hq
    exact ⟨l, ns, rfl, Or.inr (sqt_same R1.sub hq), fun p hp => k _ _ _ (R1.step (Step.own R1.sub hp _)) s1 ⟨p, _, rfl, R1.live hp, upd_same, Reps.ints _⟩⟩
  | _ => cases e2

theorem holdAll_ints {h : Heap} {its : List Value} {ns : List Int} (r : Vals (ns.map V.int) its) : PySem.W.HoldAll h its ns := by
  induction ns generalizing its with
  | nil => cases r; exact PySem.W.HoldAll.nil
  | cons n ns ih =>
    cases r with
    | cons a b =>
      obtain ⟨t, rfl⟩ := a
      exact PySem.W.HoldAll.cons ⟨_, .int n t⟩ (ih b)
theorem minOf_eq (n : Int) (l : List Int) : PySem.W.minOf n l = minI n l := by
  unfold PySem.W.minOf minI
  congr 1
  funext a y
  have : (PySem.W.DatumOrd.lt y a = true) = (y < a) := by
    show (decide (y < a) = true) = _
    simp
  simp only [this]
theorem cd_min1 (O : Okc X) : CallR X (.builtin "min") (rsD X.K min1D) := by
  intro pins s σ H xs us Q I r ⟨G, as, d, e, ra, hd, h⟩
  have hu := O.hr.units
  have fin : ∀ (n : Int) (r' : List Int) (v : Value) (h' : Heap) (tk : Nat), PySem.W.Holds h' v (PySem.W.minOf n r') → (∀ b o, s.heap.get? b = some o → h'.get? b = some o) → d = .int (minI n r') → EP X pins σ Q v { s with heap := h', toks := tk } := by
    intro n r' v h' tk hv hk hd
    obtain ⟨as, q⟩ := hv
    have q : Reads h' v (.int (PySem.W.minOf n r')) as := q
    cases q with
    | int _ t =>
      refine ⟨.int (PySem.W.minOf n r'), H, I.kept (t' := tk) hk, ⟨_, rfl⟩, ?_⟩
      rw [minOf_eq]
      subst hd
      exact quiet_end e h (.int _)
  match as, hd with
  | [.list ys], hd =>
    obtain ⟨w, rfl, r1⟩ := one_inv ra
    obtain ⟨a, vs, rfl, hq, hs⟩ := r1.lst_inv
    simp only [min1D] at hd
    obtain ⟨ns, e1, hd⟩ := bind_some hd
    cases ns with
    | nil => cases hd
    | cons n r' =>
      cases hd
      rw [hs.int_vs e1] at hq
      obtain ⟨its, rv, hl, hz⟩ := I.list (e.seq hq)
      rw [Vals.ref1 r]
      exact PySem.W.min_list_datum (I.ok.hd O.calm) hl.isList (by simpa using holdAll_ints rv) (by show X.A.units + 1 + 0 < cLine; omega) fun i v h' tk _ hv hk => fin n r' v h' tk hv hk rfl
  | [.tuple ys], hd =>
    obtain ⟨w, rfl, r1⟩ := one_inv ra
    obtain ⟨a, vs, rfl, hq, hs⟩ := r1.tup_inv
    simp only [min1D] at hd
    obtain ⟨ns, e1, hd⟩ := bind_some hd
    cases ns with
    | nil => cases hd
    | cons n r' =>
      cases hd
      rw [hs.int_vs e1] at hq
      obtain ⟨its, rv, hl, hz⟩ := I.tuple (sqt_same e hq)
      rw [Vals.ref1 r]
      exact PySem.W.min_tuple_datum (I.ok.hd O.calm) hl (by simpa using holdAll_ints rv) (by show X.A.units + 1 + 0 < cLine; omega) fun i v h' tk _ hv hk => fin n r' v h' tk hv hk rfl
theorem md_index (O : Okc X) : MtR X "tuple.index" (rmD X.K indexD) := by
  intro pins s σ H x xs v us Q I rx rxs ⟨G, a, as, d, e, ra, ras, hd, h⟩
  have hu := O.hr.units
  match a, as, hd with
  | .tuple ys, [.int i], hd =>
    obtain ⟨l, vs, rfl, hq, hs⟩ := ra.tup_inv
    obtain ⟨w, rfl, r1⟩ := one_inv ras
    cases r1.int_inv
    simp only [indexD] at hd
    obtain ⟨ns, e1, hd⟩ := bind_some hd
    split at hd
    case isFalse => cases hd
    rename_i hin
    cases hd
    rw [hs.int_vs e1] at hq
    obtain ⟨its, rv, hl, hz⟩ := I.tuple (sqt_same e hq)
    cases rx
    cases rxs with
    | cons ry rt =>
      cases rt
      obtain ⟨t, rfl⟩ := ry
      exact PySem.W.index_tuple_datum hl (holdAll_ints rv) ⟨_, .int i t⟩ (by show X.A.units + 1 + 0 < cLine; omega) hin ⟨.int _, H, I.tok _, ⟨_, rfl⟩, quiet_end e h (.int _)⟩
theorem indexD_tup (a : D) (as : List D) (d : D) (h : indexD a as = some d) : ∃ xs, a = .tuple xs := by
  cases a <;> simp [indexD] at h
  exact ⟨_, rfl⟩
def tBMt (K : Fg) (r : V → List V → Hp → VK → Prop) (to : TE) (t : TA) : TE := fun σ H Q => to σ H fun x H1 => (∃ a xs, x = .ref a ∧ SqD K H1 a xs) ∧ t σ H1 fun xs H2 => r x xs H2 Q
theorem Inv.tup_ty {pins : List (Addr × Obj)} {σ : L2.St} {H : Hp} {s : Shared} {a : Addr} {xs : List V} (I : Inv X pins σ H s) (h : SqD X.K H a xs) : s.TypeIs (.ref a) "tuple" ∧ ∀ b, Value.ref a = .ref b → ∃ ob, s.heap.get? b = some ob ∧ ob.dict = none := by
  rcases h with ⟨o, h, d⟩ | ⟨o, its, n, hk, hc, hd, _⟩
  · have q := I.hok a _ h
    obtain ⟨q1, _, its, _, o', ho', hc', _⟩ := q
    rw [q1] at ho'
    cases ho'
    exact ⟨⟨o, q1, hc'⟩, fun b e => by cases e; exact ⟨o, q1, d⟩⟩
  · have q := I.kIn a o hk
    exact ⟨⟨o, q, hc⟩, fun b e => by cases e; exact ⟨o, q, hd⟩⟩
theorem pe_bmT {id : String} {name : Str} {o : Expr} {r : V → List V → Hp → VK → Prop} {to : TE} {t : TA} (slot : Slot "tuple" name id) (hty : typeOf (.builtin id) = pure (.type "method_descriptor")) (hm : MtR X id r) (ho : PE X o to) (ha : PA X (e :: es) t)
    (hbase : attributeBase o name X.env (eval o X.env) = eval o X.env)
    (hfew : ((backTo cpos (starEach (e :: es) X.env)).all (fun x => !x.1) && (backToKw cpos (keywordEach [] X.env)).all (fun x => x.1.isSome)
      && decide ((e :: es).length + ([] : List Keyword).length + (if ([] : List Keyword).isEmpty then 0 else 1) < 30)) = true)
    (hline : (apos.endLine == cpos.line) = true) (hs : starEach (e :: es) X.env = (false, eval e X.env) :: starEach es X.env) (hplain : (backTo cpos (starEach es X.env)).any (·.1) = false) :
    PE X (.Call (.Attribute o name apos) (e :: es) [] cpos) (tBMt X.K r to t) := by
  refine ⟨fun pins s σ H Q I h => ?_⟩
  refine wpAny_Call_method_late hbase hfew hline rfl (thn (ho.run pins s σ H _ I h) fun v s1 ⟨x, H1, I1, r1, ⟨a, xs, ex, ty⟩, q1⟩ => ?_)
  subst ex
  obtain rfl : v = Value.ref a := r1
  obtain ⟨h1, h2⟩ := Inv.tup_ty I1 ty
  refine ⟨"tuple", id, PySem.F.plainAttrs_tuple, slot, hty, h1, h2, ?_⟩
  have hA := ha.run cpos pins s1 σ H1 _ I1 q1
  rw [hs] at hA ⊢
  refine Calls.callWith_builtin (by show (false || (backTo cpos (starEach es X.env)).any (·.1)) = false; rw [hplain] <;> rfl) (Calls.evalArgs_plain ?_)
  exact thn hA fun us s2 ⟨vs, H2, I2, r2, q2⟩ => hm pins s2 σ H2 (.ref a) vs (.ref a) us Q I2 rfl r2 q2
theorem de_bmT {id : String} {name : Str} {o : Expr} {g : D → List D → Option D} (slot : Slot "tuple" name id) (hty : typeOf (.builtin id) = pure (.type "method_descriptor")) (hm : MtR X id (rmD X.K g)) (hT : ∀ a as d, g a as = some d → ∃ x, a = .tuple x)
    (ho : DE X o fa) (ha : DA X (e :: es) fs)
    (hbase : attributeBase o name X.env (eval o X.env) = eval o X.env := by rfl)
    (hfew : ((backTo cpos (starEach (e :: es) X.env)).all (fun x => !x.1) && (backToKw cpos (keywordEach [] X.env)).all (fun x => x.1.isSome)
      && decide ((e :: es).length + ([] : List Keyword).length + (if ([] : List Keyword).isEmpty then 0 else 1) < 30)) = true := by rfl)
    (hline : (apos.endLine == cpos.line) = true := by rfl) (hs : starEach (e :: es) X.env = (false, eval e X.env) :: starEach es X.env := by rfl) (hplain : (backTo cpos (starEach es X.env)).any (·.1) = false := by rfl) :
    DE X (.Call (.Attribute o name apos) (e :: es) [] cpos) (fM g fa fs) := by
  obtain ⟨ta, pa, qa⟩ := ho
  obtain ⟨tb, pb, qb⟩ := ha
  refine ⟨_, pe_bmT slot hty hm pa pb hbase hfew hline hs hplain, fun δ F own G H ρ γ σ d ρ' γ' Q R e k => ?_⟩
  obtain ⟨⟨x, ρ1, γ1⟩, e1, e⟩ := bind_some e
  obtain ⟨⟨ys, ρ2, γ2⟩, e2, e⟩ := bind_some e
  obtain ⟨z, e3, e⟩ := map_some e
  cases e
  refine qa δ F own G H ρ γ σ x _ _ _ R e1 fun v G1 H1 R1 s1 r1 => ⟨?_, qb δ F own G1 H1 _ _ σ ys _ _ _ R1 e2 fun u G2 H2 R2 s2 r2 => ?_⟩
  · obtain ⟨y, hy⟩ := hT _ _ _ e3
    have hy : x = .tuple y := hy
    subst hy
    obtain ⟨l, vs, rfl, hq, _⟩ := r1.tup_d
    exact ⟨l, vs, rfl, sqd_same R1.sub hq⟩
  · exact ⟨G2, x, ys, d, R2.sub, r1.mono s2, r2, e3, fun w G' H' st r => k w G' H' (R2.step st) ((s1.trans s2).trans st.sg) r⟩
end
end DL

namespace DL
open PySem PySem.Spec PyProof.Rows L2
/-- more turns than any while of ours takes -/
def BIG : Nat := 2 ^ 4096
def sW (c : Ft) (fb : Fst) : Fst := fun ρ γ => whL c fb BIG ρ γ
theorem ds_w {X : Cx} {c : Expr} {body : List Stmt} {ft : Ft} {fb : Fst} {pos : Pos} (O : Okc X) (hc : DT X c ft) (hb : DB X body fb) : DS X (.While c body [] pos) (sW ft fb) := ds_wh O (fun _ _ => BIG) hc hb
/-- a def stands as the text has it -/
structure DefOk (K : Fg) (mg : Str → Option Value) (x : Str) (st : Stmt) (ps : List Str) (f : Addr) (fd : FuncData) : Prop where
  fn : Fun K x x st f fd
  m : mg x = some (.ref f)
  b : Binds K fd ps []
theorem Okc.b1 {X : Cx} (O : Okc X) : Okc X := O
end DL

namespace DL
open PySem PySem.Spec PyProof.Rows L2

section
variable {K : Fg} {δ : List Addr} {F : Fm} {own own' : Nat → Addr} {G H G' H' : Hp} {ρ ρ' : Row} {γ γ' : Bxs} {σ σ' : L2.St} {p : Addr} {o : HO}
/-- the frame that keeps the thing at p -/
def keepF (F : Fm) (p : Addr) (o : HO) : Fm := ⟨F.G, fun b => if b = p then some o else F.H b⟩
theorem Rel.keepP (r : Rel K δ F own G H ρ γ σ) (f : Free δ F own G ρ p) (hp : H p = some o) : Rel K δ (keepF F p o) own G H ρ γ σ where
  wd := r.wd
  g0 := r.g0
  len := r.len
  slot := r.slot
  inj := r.inj
  q0 b h1 h2 := by
    by_cases hb : b = p
    · rw [hb]; exact f.g
    · exact r.q0 b (by simpa [keepF, hb] using h1) h2
  h0 b u h1 h2 h3 := by
    by_cases hb : b = p
    · subst hb
      have : some o = some u := by simpa [keepF] using h1
      rw [hp, this]
    · exact r.h0 b u (by simpa [keepF, hb] using h1) h2 h3
  ownd i xs hi := by
    obtain ⟨o1, o2, o3⟩ := r.ownd i xs hi
    exact ⟨o1, o2, by simpa [keepF, f.o i xs hi] using o3⟩
theorem Rel.unkeepP (g0 : Same F.G G) (f : Free δ F own G ρ p) (r : Rel K δ (keepF F p o) own' G' H' ρ' γ' σ') : Rel K δ F own' G' H' ρ' γ' σ' ∧ Free δ F own' G' ρ' p ∧ H' p = some o := by
  have ne : ∀ {b}, F.H b ≠ none → b ≠ p := fun h z => h (by rw [z]; exact f.f)
  have up : ∀ {b}, b ≠ p → (keepF F p o).H b = F.H b := fun {b} hb => by simp [keepF, hb]
  have atp : (keepF F p o).H p = some o := by simp [keepF]
  have op : ∀ i xs, ρ'[i]? = some (.ol xs) → own' i ≠ p := fun i xs hi z => by
    have := (r.ownd i xs hi).2.2
    rw [z, atp] at this; cases this
  refine ⟨⟨r.wd, r.g0, fun b h1 h2 => r.q0 b (by rw [up (ne h1)]; exact h1) h2, fun b u h1 h2 h3 => r.h0 b u (by rw [up (ne (by rw [h1]; intro z; cases z))]; exact h1) h2 h3, r.len, r.slot, fun i xs hi => ?_, r.inj⟩,
    ⟨r.q0 p (by rw [atp]; intro z; cases z) (g0.free f.g), f.d, f.f, op⟩, r.h0 p o atp (g0.free f.g) f.d⟩
  obtain ⟨o1, o2, o3⟩ := r.ownd i xs hi
  exact ⟨o1, o2, by rw [up (op i xs hi)] at o3; exact o3⟩
/-- the thing at p becomes quiet -/
theorem Rel.quietP (r : Rel K δ F own G H ρ γ σ) (f : Free δ F own G ρ p) (hp : H p = some o) : Same G (upd G p o) ∧ Rel K δ F own (upd G p o) H ρ γ σ := by
  have sg : Same G (upd G p o) := fun b u e => by rw [upd_ne (ne_of_none e f.g)]; exact e
  refine ⟨sg, ⟨⟨fun b u e => ?_, r.wd.len, r.wd.nd, fun a ha => ?_, fun n c hc => ?_⟩, r.g0.trans sg, fun b h1 h2 => ?_, r.h0, r.len, fun i s hi => ?_, fun i xs hi => ?_, r.inj⟩⟩
  · by_cases hb : b = p
    · subst hb; rw [upd_same] at e; cases e; exact hp
    · rw [upd_ne hb] at e; exact r.sub _ _ e
  · rw [upd_ne (fun z => f.d (by rw [← z]; exact ha))]; exact r.wd.out a ha
  · obtain ⟨a, ws, h1, h2, h3⟩ := r.wd.cell n c hc
    exact ⟨a, ws, h1, h2, h3.mono sg⟩
  · rw [upd_ne (fun z => h1 (by rw [z]; exact f.f))]; exact r.q0 b h1 h2
  · have q := r.slot i s hi
    cases s with
    | un => trivial
    | d x => exact ⟨q.choose, q.choose_spec.1, q.choose_spec.2.mono sg⟩
    | bx n => exact q
    | ol ys => exact ⟨q.1, q.2.choose, q.2.choose_spec.1, q.2.choose_spec.2.mono sg⟩
  · obtain ⟨o1, o2, o3⟩ := r.ownd i xs hi
    exact ⟨by rw [upd_ne (f.o i xs hi)]; exact o1, o2, o3⟩
end

/-- a tuple of the module -/
def CTup (K : Fg) (mg : Str → Option Value) (x : Str) (ds : List D) : Prop := ∃ a xs, mg x = some (.ref a) ∧ SqD K (fun _ => none) a xs ∧ Reps K (fun _ => none) xs ds

def keyOf : D → Option Key
  | .int i => some (.inl i)
  | .str x => some (.inr x)
  | _ => none
def keysOf : List D → Option (List Key)
  | [] => some []
  | d :: ds => (keyOf d).bind fun k => (keysOf ds).map fun r => k :: r
theorem keyOf_some : ∀ {d : D} {k : Key}, keyOf d = some k → d = kD k
  | .int i, k, h => by cases h; rfl
  | .str i, k, h => by cases h; rfl
theorem keysOf_some : ∀ {ds : List D} {ks : List Key}, keysOf ds = some ks → ds = ks.map kD
  | [], ks, h => by cases h; rfl
  | d :: ds, ks, h => by
    simp only [keysOf] at h
    obtain ⟨i, e1, h⟩ := bind_some h
    obtain ⟨r, e2, h⟩ := map_some h
    cases h
    rw [keyOf_some e1, keysOf_some e2]; rfl
abbrev Fps := Row → Bxs → Option (List (D × D) × Row × Bxs)
def pNil : Fps := fun ρ γ => some ([], ρ, γ)
def pCons (fk fv : Fx) (fr : Fps) : Fps := fun ρ γ => (fk ρ γ).bind fun p => (fv p.2.1 p.2.2).bind fun q => (fr q.2.1 q.2.2).map fun r => ((p.1, q.1) :: r.1, r.2)
def fDict (fp : Fps) : Fx := fun ρ γ => (fp ρ γ).bind fun p => (keysOf (p.1.map (·.1))).bind fun ks => if ks.Nodup ∧ ks.length ≤ 15 then some (.dict p.1, p.2) else none
def fDict0 : Fx := fun ρ γ => some (.dict [], ρ, γ)
def lookD (kvs : List (D × D)) (k : Key) : Option D := (kvs.find? fun p => decide (keyOf p.1 = some k)).map (·.2)
/-- the dict holds a key that is an int or a text -/
def keyed : List (D × D) → Bool
  | (k, _) :: _ => (keyOf k).isSome
  | [] => false
def getD : D → List D → Option D
  | .dict kvs, [k] => if keyed kvs then (keyOf k).map fun k => (lookD kvs k).getD .none else none
  | .dict kvs, [k, d] => if keyed kvs then (keyOf k).map fun k => (lookD kvs k).getD d else none
  | _, _ => none
def DPs (X : Cx) (pos : Pos) (keys : List (Option Expr)) (values : List Expr) (f : Fps) : Prop := ∃ trs, PPs X pos keys values trs ∧ ∀ (δ : List Addr) (F : Fm) (own : Nat → Addr) (G H : Hp) (ρ : Row) (γ : Bxs) (σ : L2.St) (ds : List (D × D)) (ρ' : Row) (γ' : Bxs) (Q : List (V × V) → Hp → Prop),
  Rel X.K δ F own G H ρ γ σ → f ρ γ = some (ds, ρ', γ') → (∀ ps G' H', Rel X.K δ F own G' H' ρ' γ' σ → Same G G' → Reps X.K G' (ps.map (·.1)) (ds.map (·.1)) → Reps X.K G' (ps.map (·.2)) (ds.map (·.2)) → Q ps H') → tPairs trs σ H Q
theorem putK_new {kvs : List (Key × V)} {k : Key} {v : V} (h : k ∉ kvs.map (·.1)) : putK kvs k v = kvs ++ [(k, v)] := by
  unfold putK
  rw [if_neg]
  intro z
  obtain ⟨p, hp, e⟩ := List.any_eq_true.mp z
  exact h (List.mem_map.mpr ⟨p, hp, of_decide_eq_true e⟩)
theorem merge_new : ∀ {more kvs : List (Key × V)}, ((kvs ++ more).map (·.1)).Nodup → mergeK kvs more = kvs ++ more
  | [], kvs, _ => by simp [mergeK]
  | (k, v) :: r, kvs, h => by
    have e : mergeK kvs ((k, v) :: r) = mergeK (putK kvs k v) r := rfl
    have hk : k ∉ kvs.map (·.1) := by
      rw [List.map_append] at h
      have := List.nodup_append.mp h
      exact fun z => this.2.2 k z k (by simp) rfl
    rw [e, putK_new hk, merge_new (by rw [List.append_assoc]; exact h), List.append_assoc]
    rfl
theorem keys_vs {K : Fg} {G : Hp} : ∀ {vs : List V} {ks : List Key}, Reps K G vs (ks.map kD) → vs = ks.map kV
  | _, [], h => by cases h; rfl
  | _, .inl i :: r, h => by
    cases h with
    | cons a b =>
      have a : Rep K G _ (.int i) := a
      rw [a.int_inv, keys_vs b]; rfl
  | _, .inr i :: r, h => by
    cases h with
    | cons a b =>
      have a : Rep K G _ (.str i) := a
      rw [a.str_inv, keys_vs b]; rfl
section
variable {X : Cx} {a b c e f o : Expr} {es : List Expr} {fa fb fc : Fx} {fs fr : Fs} {pos p apos cpos : Pos} {ks : List (Option Expr)} {vs : List Expr} {fp : Fps}
theorem CTup.de {x : Str} {ds : List D} (h : CTup X.K X.mg x ds) (hg : Gl X x) (hd : (x == ("__debug__" : Str)) = false := by decide) : DE X (.Name x pos) (fC (.tuple ds)) := by
  obtain ⟨a, xs, hm, hs, hr⟩ := h
  refine de_const (v := .ref a) (pe_glob hg hm ?_ hd) fun G => .tup (sqd_same (fun b u z => by cases z) hs) (hr.mono fun b u z => by cases z)
  exact rfl
theorem dps_nil : DPs X pos [] [] pNil := ⟨_, pps_nil, fun δ F own G H ρ γ σ d ρ' γ' Q R e k => by cases e; exact k _ G H R (Same.refl _) .nil .nil⟩
theorem dps_cons {k v : Expr} (hk : DE X k fa) (hv : DE X v fb) (hr : DPs X pos ks vs fp) : DPs X pos (some k :: ks) (v :: vs) (pCons fa fb fp) := by
  obtain ⟨ta, pa, qa⟩ := hk
  obtain ⟨tb, pb, qb⟩ := hv
  obtain ⟨tc, pc, qc⟩ := hr
  refine ⟨_, pps_cons pa pb pc, fun δ F own G H ρ γ σ d ρ' γ' Q R e k => ?_⟩
  obtain ⟨⟨x, ρ1, γ1⟩, e1, e⟩ := bind_some e
  obtain ⟨⟨y, ρ2, γ2⟩, e2, e⟩ := bind_some e
  obtain ⟨⟨z, ρ3, γ3⟩, e3, e⟩ := map_some e
  cases e
  exact qa δ F own G H ρ γ σ x _ _ _ R e1 fun v G1 H1 R1 s1 r1 => qb δ F own G1 H1 _ _ σ y _ _ _ R1 e2 fun u G2 H2 R2 s2 r2 => qc δ F own G2 H2 _ _ σ z _ _ _ R2 e3 fun ps G3 H3 R3 s3 ra rb =>
    k _ G3 H3 R3 ((s1.trans s2).trans s3) (.cons (r1.mono (s2.trans s3)) ra) (.cons (r2.mono s3) rb)
theorem de_dict0 : DE X (.Dict [] [] pos) fDict0 := by
  refine ⟨_, pe_dnewK, fun δ F own G H ρ γ σ d ρ' γ' Q R e k p hp => ?_⟩
  cases e
  have st := Step.new R.sub hp (.dK [])
  exact k _ _ _ (R.step st) st.sg (.dK (kvs := []) upd_same .nil)
theorem pairs_eq : ∀ {l : List (D × D)} {ks : List D}, l.map (·.1) = ks → ks.zip (l.map (·.2)) = l
  | [], _, h => by subst h; rfl
  | (a, b) :: l, _, h => by subst h; simpa using pairs_eq (l := l) rfl
theorem unzip_eq : ∀ {ps : List (V × V)} {ks : List Key}, ps.map (·.1) = ks.map kV → ps = (ks.zip (ps.map (·.2))).map fun kv => (kV kv.1, kv.2)
  | [], [], _ => rfl
  | [], _ :: _, h => by simp at h
  | _ :: _, [], h => by simp at h
  | (a, b) :: ps, k :: ks, h => by
    simp only [List.map_cons, List.cons.injEq] at h
    have := unzip_eq h.2
    simp only [List.map_cons, List.zip_cons_cons, h.1]
    rw [← this]
theorem de_dict (h : DPs X pos ks vs fp) (hall : ks.all (·.isSome) = true) (hl : ks.length = vs.length) (h0 : ks ≠ []) (h15 : ks.length ≤ 15) : DE X (.Dict ks vs pos) (fDict fp) := by
  obtain ⟨trs, pa, qa⟩ := h
  refine ⟨_, pe_disp pa hall hl h0 h15, fun δ F own G H ρ γ σ d ρ' γ' Q R e k p hp => ?_⟩
  obtain ⟨⟨l, ρ1, γ1⟩, e1, e⟩ := bind_some e
  obtain ⟨kk, e2, e⟩ := bind_some e
  split at e
  case isFalse => cases e
  rename_i hc
  cases e
  have f0 := R.live hp
  have R0 := (R.updF (o := .dK []) f0).keepP f0 upd_same
  refine qa δ _ own G _ ρ γ σ l _ _ _ R0 e1 fun ps G1 H1 R1 s1 ra rb => ?_
  obtain ⟨R2, f2, h2⟩ := Rel.unkeepP R.g0 f0 R1
  have ek := keysOf_some e2
  have ek : l.map (·.1) = kk.map kD := ek
  rw [ek] at ra
  have ev := keys_vs ra
  have ep := unzip_eq ev
  have hlen : (ps.map (·.2)).length = kk.length := by
    have := congrArg List.length ev
    simpa using this
  refine ⟨h2, kk.zip (ps.map (·.2)), ep, by rw [List.length_zip, hlen, Nat.min_self]; exact hc.2, ?_⟩
  have ez : (kk.zip (ps.map (·.2))).map (·.1) = kk := List.map_fst_zip (by omega)
  have ez2 : (kk.zip (ps.map (·.2))).map (·.2) = ps.map (·.2) := List.map_snd_zip (by omega)
  rw [merge_new (by rw [List.nil_append, ez]; exact hc.1), List.nil_append]
  have R3 := R2.updF (o := .dK (kk.zip (ps.map (·.2)))) f2
  obtain ⟨sg, R4⟩ := R3.quietP f2 upd_same
  refine k _ _ _ R4 (s1.trans sg) ?_
  have rr := Rep.dK (K := X.K) (G := upd G1 p (.dK (kk.zip (ps.map (·.2))))) (a := p) upd_same (by rw [ez2]; exact rb.mono sg)
  have e3 : ((kk.zip (ps.map (·.2))).map fun q => kD q.1) = l.map (·.1) := by
    rw [ek]
    conv => rhs; rw [← ez]
    rw [List.map_map]; rfl
  rw [e3, pairs_eq rfl] at rr
  exact rr
end
end DL

namespace DL
open PySem PySem.Spec PyProof.Rows L2

theorem lookD_at : ∀ {kvs : List (Key × V)} {ds : List D} {K : Fg} {G : Hp} (k : Key), Reps K G (kvs.map (·.2)) ds →
    (∃ v d, valV kvs k = some v ∧ lookD ((kvs.map fun p => kD p.1).zip ds) k = some d ∧ Rep K G v d) ∨ (valV kvs k = none ∧ lookD ((kvs.map fun p => kD p.1).zip ds) k = none)
  | [], _, _, _, k, .nil => Or.inr ⟨rfl, rfl⟩
  | (k', v) :: kvs, d :: ds, K, G, k, .cons ra rb => by
    have e : keyOf (kD k') = some k' := by cases k' <;> rfl
    by_cases h : k' = k
    · subst h
      exact Or.inl ⟨v, d, valV_pos rfl, by simp [lookD, e], ra⟩
    · rw [valV_neg h]
      have h' : lookD (((k', v) :: kvs |>.map fun p => kD p.1).zip (d :: ds)) k = lookD ((kvs.map fun p => kD p.1).zip ds) k := by
        have : ¬ keyOf (kD k') = some k := fun z => h (by rw [e] at z; exact Option.some.inj z)
        simp [lookD, this]
      rw [h']
      exact lookD_at k rb
section
variable {X : Cx} {a b c e f o : Expr} {es : List Expr} {fa fb fc : Fx} {fs fr : Fs} {pos p apos cpos : Pos}
theorem keyed_dK {K : Fg} {G : Hp} {v : V} {kvs : List (D × D)} (h : Rep K G v (.dict kvs)) (hk : keyed kvs = true) : ∃ a vs ds, v = .ref a ∧ G a = some (.dK vs) ∧ Reps K G (vs.map (·.2)) ds ∧ kvs = (vs.map fun p => kD p.1).zip ds := by
  generalize hd : PyData.dict kvs = d at h
  cases h with
  | dK e r => cases hd; exact ⟨_, _, _, rfl, e, r, rfl⟩
  | dT e r =>
    cases hd
    rename_i vs ds
    cases vs with
    | nil => simp [keyed] at hk
    | cons q vs =>
      cases r with
      | cons ra rb => simp [keyed, keyOf] at hk
  | _ => cases hd
theorem m2_of {o e f : Expr} {apos cpos : Pos} {m : Str} (h1 : attributeBase o m X.env (eval o X.env) = eval o X.env) (h2 : ((backTo cpos (starEach [e, f] X.env)).all (fun x => !x.1) && (backToKw cpos (keywordEach [] X.env)).all (fun x => x.1.isSome)
    && decide (([e, f] : List Expr).length + ([] : List Keyword).length + (if ([] : List Keyword).isEmpty then 0 else 1) < 30)) = true) (h3 : (apos.endLine == cpos.line) = true) (h4 : backTo cpos (starEach [e, f] X.env) = [(false, eval e X.env), (false, eval f X.env)]) : M2 X o m apos e f cpos := ⟨h1, h2, h3, h4⟩
theorem de_get2 (O : Okc X) (ho : DE X o fa) (he : DE X e fb) (hf : DE X f fc) (m : M2 X o "get" apos e f cpos := by exact ⟨rfl, rfl, rfl, rfl⟩) : DE X (.Call (.Attribute o "get" apos) [e, f] [] cpos) (fM getD fa (fCons fb (fCons fc fNil))) := by
  obtain ⟨ta, pa, qa⟩ := ho
  obtain ⟨tb, pb, qb⟩ := he
  obtain ⟨tc, pc, qc⟩ := hf
  refine ⟨_, pe_dget2 (by have := O.hr.units; omega) pa pb pc m, fun δ F own G H ρ γ σ d ρ' γ' Q R e k => ?_⟩
  obtain ⟨⟨x, ρ1, γ1⟩, e1, e⟩ := bind_some e
  obtain ⟨⟨ys, ρ4, γ4⟩, e2, e⟩ := bind_some e
  obtain ⟨z, e3, e⟩ := map_some e
  cases e
  obtain ⟨⟨y, ρ2, γ2⟩, e4, e2⟩ := bind_some e2
  obtain ⟨⟨ys', ρ3, γ3⟩, e5, e2⟩ := map_some e2
  cases e2
  obtain ⟨⟨y2, ρ5, γ5⟩, e6, e5⟩ := bind_some e5
  obtain ⟨⟨ys2, ρ6, γ6⟩, e7, e5⟩ := map_some e5
  cases e5
  cases e7
  have e3 : getD x [y, y2] = some _ := e3
  refine qa δ F own G H ρ γ σ x _ _ _ R e1 fun v G1 H1 R1 s1 r1 => ?_
  cases x with
  | dict kvs =>
    simp only [getD] at e3
    split at e3
    case isFalse => cases e3
    rename_i hk
    obtain ⟨a, vs, ds, rfl, hq, hr, rfl⟩ := keyed_dK r1 hk
    obtain ⟨k1, e8, e9⟩ := map_some e3
    refine ⟨a, rfl, Or.inl ⟨vs, .inl (R1.sub _ _ hq)⟩, qb δ F own G1 H1 _ _ σ y _ _ _ R1 e4 fun u G2 H2 R2 s2 r2 => qc δ F own G2 H2 _ _ σ y2 _ _ _ R2 e6 fun w G3 H3 R3 s3 r3 => ?_⟩
    have hy : y = kD k1 := keyOf_some e8
    subst hy
    have r2' : u = kV k1 := by
      cases k1 with
      | inl i => exact Rep.int_inv r2
      | inr i => exact Rep.str_inv r2
    subst r2'
    refine ⟨valV vs k1, .inl ⟨vs, k1, .inl (R3.sub _ _ ((s2.trans s3) _ _ hq)), rfl, rfl⟩, ?_⟩
    rcases lookD_at k1 hr with ⟨v', d', h1, h2, h3⟩ | ⟨h1, h2⟩
    · rw [h1]
      rw [h2] at e9
      cases e9
      exact k _ G3 H3 R3 ((s1.trans s2).trans s3) (h3.mono (s2.trans s3))
    · rw [h1]
      rw [h2] at e9
      cases e9
      exact k _ G3 H3 R3 ((s1.trans s2).trans s3) r3
  | _ => simp [getD] at e3
end
end DL

namespace DL
open PySem PySem.Spec PyProof.Rows L2

/-- how many unlike ints there are -/
def cnt : List Int → Nat
  | [] => 0
  | k :: l => if k ∈ l then cnt l else cnt l + 1
theorem cnt_le : ∀ l : List Int, cnt l ≤ l.length
  | [] => Nat.le_refl _
  | k :: l => by
    have := cnt_le l
    unfold cnt
    split <;> simp <;> omega
/-- the set at a, of the ints of l -/
def SetL (w : World) (a : Addr) (l : List Int) : HO := SetO w a (fun j => decide (j ∈ l)) (cnt l)
theorem setL_nil (w : World) (a : Addr) : SetO w a (fun _ => false) 0 = SetL w a [] := by
  unfold SetL
  congr 1
theorem setL_cons (w : World) (a : Addr) (k : Int) (l : List Int) : SetO w a (fun j => decide (j ∈ l) || decide (j = k)) (if decide (k ∈ l) = true then cnt l else cnt l + 1) = SetL w a (k :: l) := by
  unfold SetL
  have e1 : (fun j => decide (j ∈ l) || decide (j = k)) = fun j => decide (j ∈ k :: l) := by
    funext j
    rw [Bool.eq_iff_iff]
    simp [or_comm]
  have e2 : (if decide (k ∈ l) = true then cnt l else cnt l + 1) = cnt (k :: l) := by
    simp only [decide_eq_true_eq, cnt]
  rw [e1, e2]
/-- the readings of such a comprehension -/
def tScI (w : World) (wi : TI) (g : TG) (tt : TT) (te : TE) (vs : List Nat) : TE := fun σ H Q => wi σ H fun J H1 => ∀ Z, H1 Z = none → ∃ W : Nat → Nat → Hp → Prop, (∃ m, W 0 m (upd H1 Z (SetL w Z []))) ∧ ∀ i m H, W i m H →
  (J.stop i H ∧ Q (.ref Z) H) ∨ (J.go i H ∧ ∃ Nx : Hp → Prop, (∀ H', Nx H' → ∃ m', m' < m ∧ W (i + 1) m' H') ∧
    ∀ x H', J.yld i H x H' → g x (wipe σ vs) H' fun σ2 H2 => wipe σ2 vs = wipe σ vs ∧ tt σ2 H2 fun b H3 => if b = true then te σ2 H3 fun y H4 => ∃ (c : Int) (l : List Int), y = .int c ∧ H4 Z = some (SetL w Z l) ∧ cnt l + 1 < scanBound ∧ Nx (upd H4 Z (SetL w Z (c :: l))) else Nx H3)
section
variable {X : Cx}
theorem addL_ok {pins : List (Addr × Obj)} {σ : L2.St} {H : Hp} {s : Shared} {E : Value → Shared → Prop} {Z : Addr} {l : List Int} {k : Int} {t : Tok} {Q : Value → Shared → Prop} (I : Inv X pins σ H s) (hZ : H Z = some (SetL X.w Z l)) (room : cnt l + 1 < scanBound)
    (h : ∀ s', Inv X pins σ (upd H Z (SetL X.w Z (k :: l))) s' → Q .none s') : wpAny (model X.prog X.w) X.A (call (.builtin "set.add") [.ref Z, .int k t]) Q E s := by
  refine setR_add (setO_get I hZ) room fun h' sb new => h _ ?_
  rw [← setL_cons]
  obtain ⟨u, _, _, _, hu, _⟩ := id new
  exact I.write (e := Z) (t' := s.toks + 1) (by rw [hZ]; trivial) (.inl rfl) (fun b u hb hu => (sb.2 b hb).trans hu) ⟨u, hu⟩ (setO_new new)
variable {elt tg iter : Expr} {ifs : List Expr} {scope : Scope} {own : List (Str × Nat)} {pos pos' spos py : Pos} {wi : TI} {g : TG} {tt : TT} {te : TE}
/-- the turns of it, in the block's own context -/
theorem scI_loop {pins : List (Addr × Obj)} {s3 : Shared} {σ : L2.St} {H3 : Hp} {ce : Env} {fp : List Addr} {it Z : Addr} {tn : Nat → Heap → Prop} {J : It} {R : Result → Shared → Prop} {s4 : Shared} {Q : VK} {m0 : Nat} {W : Nat → Nat → Hp → Prop}
    (hc : X.calm = true) (I3 : Inv X pins σ H3 s3) (T : Turn X.prog X.w X.K tg J fp it tn)
    (f3 : ∀ b ∈ fp, FpOk X pins H3 b ∧ b < s3.heap.objs.size) (pg : PG (X.blk s3 H3 scope ce fp) tg g) (pt : PTs (X.blk s3 H3 scope ce fp) ifs tt) (pe : PE (X.blk s3 H3 scope ce fp) elt te)
    (I4 : Inv (X.blk s3 H3 scope ce fp) [] (wipe σ (own.map (·.2))) H3 s4) (st4 : tn 0 s4.heap) (w0 : W 0 m0 H3)
    (turn : ∀ i m H, W i m H → (J.stop i H ∧ Q (.ref Z) H) ∨ (J.go i H ∧ ∃ Nx : Hp → Prop, (∀ H', Nx H' → ∃ m', m' < m ∧ W (i + 1) m' H') ∧
      ∀ x H', J.yld i H x H' → g x (wipe σ (own.map (·.2))) H' fun σ2 H2 => wipe σ2 (own.map (·.2)) = wipe σ (own.map (·.2)) ∧ tt σ2 H2 fun b H3 => if b = true then te σ2 H3 fun y H4 => ∃ (c : Int) (l : List Int), y = .int c ∧ H4 Z = some (SetL X.w Z l) ∧ cnt l + 1 < scanBound ∧ Nx (upd H4 Z (SetL X.w Z (c :: l))) else Nx H3))
    (fin : ∀ s6 H5, Inv X pins σ H5 s6 → Q (.ref Z) H5 → Inv (X.blk s3 H3 scope ce fp) [] (wipe σ (own.map (·.2))) H5 s6 → R (.ok .next) s6) :
    codeAny (model X.prog X.w) X.A (.compLoop (.SetComp elt [⟨tg, iter, ifs, 0⟩] scope pos) 0 (.ref it) (.ref Z) ce) R s4 := by
  have nfp : ∀ b ∈ fp, H3 b = none := fun b hb => (f3 b hb).1.1
  have live : ∀ {σ' : L2.St} {H' : Hp} {s' : Shared}, Inv (X.blk s3 H3 scope ce fp) [] σ' H' s' → (∀ b ∈ fp, H' b = none) → ∀ b ∈ fp, FpOk (X.blk s3 H3 scope ce fp) [] H' b := fun I' hn b hb =>
    ⟨hn b hb, (I'.ok.exf b hb).1, I'.ok.exfs b hb, .inl hb, fun x c e => (I'.ok.exf b hb).2 x c e, fun p hp => (by simp at hp)⟩
  refine PpSet.compLoopS_any (fun n s' => ∃ i H', Inv (X.blk s3 H3 scope ce fp) [] (wipe σ (own.map (·.2))) H' s' ∧ tn i s'.heap ∧ (∀ b ∈ fp, H' b = none) ∧ W i n H') ?_ m0 ⟨0, H3, I4, st4, nfp, w0⟩
  rintro n s5 ⟨i, H5, I5, st5, n5, w5⟩
  rcases turn i n H5 w5 with ⟨stop, qq⟩ | ⟨go, Nx, hNx, step⟩
  · refine thnF (T.done (X.blk s3 H3 scope ce fp) rfl rfl rfl hc i [] s5 _ H5 (fun _ _ => False) I5 (live I5 n5) st5 stop) fun r s6 ⟨hr, I6⟩ => ?_
    subst hr
    exact fin s6 H5 (I3.call' (ch := fp) I6.os I6.base I6.hok I6.bare fun b hb => let z := (f3 b hb).1; ⟨z.2.2.2.1, z.2.1, z.2.2.2.2.1, z.2.2.2.2.2⟩) qq I6
  · refine thnF (T.item (X.blk s3 H3 scope ce fp) rfl rfl rfl hc i [] s5 _ H5 (fun _ _ => False) I5 (live I5 n5) st5 go) fun r s6 ⟨u, hr, h6⟩ => ?_
    subst hr
    refine thnF h6 fun _ s7 ⟨x, H7, I7, r7, y7, st7, n7⟩ => ?_
    refine thnF (pg.run _ s7 _ H7 x u _ (I7.pinned (live I7 n7) (T.obj _ _ st7)) r7 (step x H7 y7)) fun _ s8 ⟨σ8, H8, I8, hw8, q8⟩ => thnF (pt.run _ s8 σ8 H8 _ I8 q8) fun b s9 ⟨H9, I9, q9⟩ => ?_
    have close : ∀ {s' : Shared} {H' : Hp}, Inv (X.blk s3 H3 scope ce fp) ([] ++ pinsAt fp s7.heap) σ8 H' s' → Nx H' → ∃ m, m < n ∧ ∃ i H', Inv (X.blk s3 H3 scope ce fp) [] (wipe σ (own.map (·.2))) H' s' ∧ tn i s'.heap ∧ (∀ b ∈ fp, H' b = none) ∧ W i m H' := by
      intro s' H' I' nx
      obtain ⟨m', hm, w'⟩ := hNx H' nx
      have pin' : ∀ b ∈ fp, ∀ o, s7.heap.get? b = some o → s'.heap.get? b = some o ∧ H' b = none := fun b hb o e =>
        have z := I'.pin (b, o) (List.mem_append_right _ (List.mem_append_right _ (mem_pinsAt hb e)))
        ⟨z.1, z.2.1⟩
      refine ⟨m', hm, i + 1, H', (I'.unpinned (pins := [])).weak (by rw [← hw8, wipe_length]) (fun j v e => by rw [← hw8] at e; exact (wipe_some e).1), T.keep _ _ _ st7 fun b hb o e => (pin' b hb o e).1, fun b hb => ?_, w'⟩
      obtain ⟨o, e, _⟩ := T.obj _ _ st7 b hb
      exact (pin' b hb o e).2
    cases b with
    | false => exact close I9 q9
    | true =>
      refine thnF (pe.run _ s9 σ8 H9 _ I9 q9) fun z s10 ⟨yv, H10, I10, r10, c, l, ey, hZ, hz, nx⟩ => ?_
      subst ey
      obtain ⟨t, rfl⟩ := r10
      exact addL_ok (X := X.blk s3 H3 scope ce fp) I10 hZ hz fun s11 I11 => close I11 nx
/-- y = {elt for tg in iter if ..}, the elements ints -/
theorem ps_setScI {i : Nat} {y : Str} (O : Okc X) (hy : X.N[i]? = some y) (hyl : X.env.scope.names.lookup y = some .local) (hsw : swapsWith (.SetComp elt [⟨tg, iter, ifs, 0⟩] scope pos) (some (.Name y py)) spos.line X.env = pure true)
    (hi : PI X tg iter wi) (ok : BlkOk X.N X.env.scope scope own)
    (hg : ∀ (s : Shared) (H : Hp) (C : Addr) (cl : List (Str × Addr)) (fp : List Addr), PG (X.blk s H scope (compEnvC scope cl C X.env) fp) tg g)
    (ht : ∀ (s : Shared) (H : Hp) (C : Addr) (cl : List (Str × Addr)) (fp : List Addr), PTs (X.blk s H scope (compEnvC scope cl C X.env) fp) ifs tt)
    (he : ∀ (s : Shared) (H : Hp) (C : Addr) (cl : List (Str × Addr)) (fp : List Addr), PE (X.blk s H scope (compEnvC scope cl C X.env) fp) elt te) (hs : ∀ x, foldedSetIterable iter X.env x = pure x) :
    PS X (.Assign [.Name y py] (.SetComp elt [⟨tg, iter, ifs, 0⟩] scope pos) spos) (tAsg (tScI X.w wi g tt te (own.map (·.2))) (gName i)) := by
  refine ⟨fun pins s σ H Dn I h => ?_⟩
  have h : tScI X.w wi g tt te (own.map (·.2)) σ H (fun x H1 => gName i x σ H1 Dn.nx) := h
  rw [exec_Assign_Name_used _ _ _ _ hsw]
  refine wpAny_bind (wpAny_standAt (wpAny_bind ?_))
  show wpAny _ X.A (do let _ ← comprehension (.SetComp elt [⟨tg, iter, ifs, 0⟩] scope pos) scope X.env (firstIterPos [⟨tg, iter, ifs, 0⟩] pos) (newSet (.type "set")) false (eval iter X.env) (some (assign (.Name y py) X.env))) _ _ s
  have free : ∀ z ∈ scope.names, z.2 = .free → ∃ c, X.env.cells.lookup z.1 = some c := fun z hz e => (ok.free z hz e).elim (fun k => I.ok.has _ (.inl k)) (fun k => I.ok.has _ (.inr k))
  refine wpAny_bind (thn (Q := fun _ s' => SP X pins Dn .next s') ?_ fun _ s' hq => wpAny_pure (wpAny_pure hq))
  refine wpAny_comprehension_free (use := some (assign (.Name y py) X.env)) rfl hs (closure_ok free) ok.kind (fun z hz e => by rw [ok.uniq z hz, e]) (thn (hi.run pins s σ H _ I h) fun xv s1 hx => thn hx fun itv s2 h2 => ?_)
  obtain ⟨it, fp, tn, J, H2, ei, I2, T, st2, f2, q⟩ := h2
  subst ei
  refine PpSet.newSet_ok (newEnv_comp ?_)
  obtain ⟨W, ⟨m0, w0⟩, turn⟩ := q s2.heap.objs.size (I2.hok.fresh (Nat.le_refl _))
  have I3 : Inv X pins σ (upd H2 s2.heap.objs.size (SetL X.w s2.heap.objs.size [])) { s2 with heap := s2.heap.push { cls := .type "set", dict := none, data := .set #[] 0 (.fresh 0 0 (!X.w.params.followText "set-order")) } } := by
    rw [← setL_nil]
    exact I2.laid (t' := s2.toks) (fun b o e => Heap.get?_push_of_some _ e) (Nat.le_refl _) (setO_new (setR_fresh X.w))
  generalize hZ : s2.heap.objs.size = Z at I3 w0 turn ⊢
  generalize hs3 : ({ s2 with heap := s2.heap.push { cls := .type "set", dict := none, data := .set #[] 0 (.fresh 0 0 (!X.w.params.followText "set-order")) } } : Shared) = s3 at I3 ⊢
  have h3 : s3.heap = s2.heap.push { cls := .type "set", dict := none, data := .set #[] 0 (.fresh 0 0 (!X.w.params.followText "set-order")) } := by rw [← hs3]
  have f3 : ∀ b ∈ fp, FpOk X pins (upd H2 Z (SetL X.w Z [])) b ∧ b < s3.heap.objs.size := fun b hb => by
    obtain ⟨o, e, _⟩ := T.obj _ _ st2 b hb
    have hlt := Heap.lt_size e
    refine ⟨⟨?_, (f2 b hb).2⟩, by rw [h3, Heap.size_push]; exact Nat.lt_succ_of_lt hlt⟩
    rw [upd_ne (by rw [← hZ]; exact Nat.ne_of_lt hlt)]
    exact (f2 b hb).1
  have st3 : tn 0 s3.heap := T.keep _ _ _ st2 fun b _ o e => by rw [h3]; exact Heap.get?_push_of_some _ e
  have I4 := block_start I3 ok O.nd f3
  generalize hcl : cellsFrom (s3.heap.objs.size + 1) scope.names (cloFrom X.env.cells scope.names []) = cl at I4 ⊢
  have pg := hg s3 (upd H2 Z (SetL X.w Z [])) s3.heap.objs.size cl fp
  have pt := ht s3 (upd H2 Z (SetL X.w Z [])) s3.heap.objs.size cl fp
  have pe := he s3 (upd H2 Z (SetL X.w Z [])) s3.heap.objs.size cl fp
  show codeAny _ _ (.compStart (.SetComp elt [⟨tg, iter, ifs, 0⟩] scope pos) 0 (.ref it) (.ref Z) (compEnvC scope cl s3.heap.objs.size X.env)) (compPost (model X.prog X.w) X.A X.xe (some (assign (.Name y py) X.env)) _ (.ref Z) s3.heap.objs.size) { s3 with heap := pushCells (s3.heap.push { cls := .type "dict", data := .dict #[] }) scope.names }
  generalize hce : compEnvC scope cl s3.heap.objs.size X.env = ce at I4 pg pt pe ⊢
  have cL : ce.locals = s3.heap.objs.size := by subst hce; rfl
  generalize hs4 : ({ s3 with heap := pushCells (s3.heap.push { cls := .type "dict", data := .dict #[] }) scope.names } : Shared) = s4 at I4 ⊢
  have st4 : tn 0 s4.heap := T.keep _ _ _ st3 fun b _ o e => by rw [← hs4]; exact pushCells_keeps _ _ _ _ (Heap.get?_push_of_some _ e)
  have loop := scI_loop (elt := elt) (iter := iter) (pos := pos) (R := compPost (model X.prog X.w) X.A X.xe (some (assign (.Name y py) X.env)) (fun _ s' => SP X pins Dn .next s') (.ref Z) s3.heap.objs.size) (Q := fun x H1 => gName i x σ H1 Dn.nx)
    O.calm I3 T f3 pg pt pe I4 st4 w0 turn fun s6 H5 I7 q I6 => ?_
  · exact PpSet.codeAny_compStart_set loop (T.self X.A 0 _ _ _ st4 loop)
  have nC : H5 s3.heap.objs.size = none := by
    have z : H5 ce.locals = none := I6.free
    rw [cL] at z
    exact z
  obtain ⟨m, hn, _⟩ := I6.loc
  have hn : s6.heap.Ns ce.locals m := hn
  rw [cL] at hn
  obtain ⟨f0, f1, f2, f3, f4, f5⟩ := I3.fpOk (Nat.le_refl _) nC
  show wpAny _ _ (assign (.Name y py) X.env (.ref Z)) _ _ _
  refine wpAny_assign_Name (store_ok2 (v := V.ref Z) I7 O.nd hy (.inl hyl) rfl (fun s7 I8 ⟨a, sb, ha⟩ => ?_) (.inr hyl))
  have haC : s3.heap.objs.size ≠ a := ha.elim (fun z => by rw [z]; exact f1) (fun z e => f4 y a z e.symm)
  exact ⟨m, hn.sameBut sb haC, fun h9 sb9 => ⟨_, H5, I8.turned (t' := s7.toks) (fun b o hb e => (sb9.2 b hb).trans e) f0 f1 f3 f4 f5, q⟩⟩
end
end DL

namespace DL
open PySem PySem.Spec PyProof.Rows L2

def sSizes (i : Nat) (fi : Fs) (vs : List Nat) (g : Fg1) (ft : Ft) (fe : Fx) (n : Int) : Fst := fun ρ γ => (fi ρ γ).bind fun p => (lcL vs g ft fe p.1 [] (unS vs p.2.1) p.2.2).bind fun q => (intsOf q.1).bind fun ns =>
  if ns.length + 1 < scanBound ∧ i < q.2.1.length then some (.rt (.d (.bool (decide (((cnt ns.reverse : Nat) : Int) ≤ n)))) q.2.2) else none
theorem lcL_grows {vs : List Nat} {g : Fg1} {ft : Ft} {fe : Fx} : ∀ {ds acc : List D} {ρ : Row} {γ : Bxs} {res : List D} {ρ' : Row} {γ' : Bxs}, lcL vs g ft fe ds acc ρ γ = some (res, ρ', γ') → ∃ t, res = acc ++ t
  | [], acc, ρ, γ, res, ρ', γ', h => by cases h; exact ⟨[], by simp⟩
  | d :: ds, acc, ρ, γ, res, ρ', γ', h => by
    simp only [lcL] at h
    obtain ⟨ρ1, _, h⟩ := bind_some h
    obtain ⟨⟨b, ρ2, γ2⟩, _, h⟩ := bind_some h
    split at h
    · obtain ⟨⟨x, ρ3, γ3⟩, _, h⟩ := bind_some h
      split at h
      · obtain ⟨t, rfl⟩ := lcL_grows h
        exact ⟨x :: t, by simp⟩
      · cases h
    · exact lcL_grows h
theorem intsOf_app : ∀ {a b : List D} {ns : List Int}, intsOf (a ++ b) = some ns → ∃ n1 n2, intsOf a = some n1 ∧ intsOf b = some n2 ∧ ns = n1 ++ n2
  | [], b, ns, h => ⟨[], ns, rfl, h, rfl⟩
  | d :: a, b, ns, h => by
    rw [List.cons_append] at h
    simp only [intsOf] at h ⊢
    obtain ⟨i, e1, h⟩ := bind_some h
    obtain ⟨r, e2, h⟩ := map_some h
    obtain ⟨n1, n2, e3, e4, e5⟩ := intsOf_app e2
    cases h
    exact ⟨i :: n1, n2, by rw [e1, e3]; rfl, e4, by rw [e5]; rfl⟩
section
variable {K : Fg} {δ : List Addr} {F : Fm} {own : Nat → Addr} {G H : Hp} {ρ : Row} {γ : Bxs} {σ : L2.St}
theorem Rel.setU (r : Rel K δ F own G H ρ γ σ) (i : Nat) (v : V) : Rel K δ F own G H (ρ.set i .un) γ (σ.set i (some v)) := by
  have at_ : ∀ {j : Nat} {s : Sl}, (ρ.set i .un)[j]? = some s → s = .un ∨ (j ≠ i ∧ ρ[j]? = some s) := fun {j s} h => by
    by_cases e : i = j
    · subst e
      have hl : i < ρ.length := by
        have := (List.getElem?_eq_some_iff.mp h).1
        rw [List.length_set] at this; exact this
      rw [get_set_eq hl] at h
      exact Or.inl (Option.some.inj h).symm
    · rw [get_set_ne e] at h
      exact Or.inr ⟨fun z => e z.symm, h⟩
  refine ⟨r.wd, r.g0, r.q0, r.h0, by rw [List.length_set, List.length_set]; exact r.len, fun j s hj => ?_, fun j xs hj => ?_, fun j k xs ys hj hk => ?_⟩
  · rcases at_ hj with z | ⟨h1, h2⟩
    · subst z; trivial
    · rw [get_set_ne (fun z => h1 z.symm)]; exact r.slot j s h2
  · rcases at_ hj with z | ⟨h1, h2⟩
    · cases z
    · exact r.ownd j xs h2
  · rcases at_ hj with z | ⟨h1, h2⟩
    · cases z
    · rcases at_ hk with z | ⟨h3, h4⟩
      · cases z
      · exact r.inj j k xs ys h2 h4
theorem Free.setU {p : Addr} (f : Free δ F own G ρ p) (i : Nat) : Free δ F own G (ρ.set i .un) p :=
  ⟨f.g, f.d, f.f, fun j xs hj => by
    rcases set_ol hj with ⟨_, z⟩ | ⟨_, z⟩
    · cases z
    · exact f.o j xs z⟩
end
section
variable {X : Cx}
theorem cr_lenL : CallR X (.builtin "len") (fun xs H Q => ∃ a l, xs = [.ref a] ∧ H a = some (SetL X.w a l) ∧ Q (.int (cnt l)) H) := by
  intro pins s σ H xs us Q I r ⟨a, l, e, ha, q⟩
  subst e
  rw [Vals.ref1 r]
  obtain ⟨o, es, ep, t, ho, hex, hd, _, _, _, hsc, hf, hn, _⟩ := setO_get I ha
  have : (es.size : Int) < 2 ^ 63 := by
    have : es.size < 4096 := hsc
    omega
  exact call_len_set ho hex hd hf this ⟨.int (cnt l), H, I.tok _, ⟨_, by rw [hn]⟩, q⟩
variable {elt tg iter : Expr} {ifs : List Expr} {scope : Scope} {own : List (Str × Nat)} {pos spos py p2 pl pc p3 pq pr : Pos} {fi : Fs} {ts : List Nat} {g : Fg1} {ft : Ft} {fe : Fx}
theorem q_scI {K : Fg} {w : World} {wi : TI} {g : TG} {tt : TT} {te : TE} {vs : List Nat} {fi : Fs} {gg : Fg1} {ts : List Nat} {ft : Ft} {fe : Fx} (hi : IR K wi fi) (hg : GR K g ts gg) (ht : TR K tt ft) (he : ER K te fe) (hv : ∀ i ∈ ts, i ∈ vs)
    {δ : List Addr} {F : Fm} {own : Nat → Addr} {G H : Hp} {ρ ρ1 ρ' : Row} {γ γ1 γ' : Bxs} {σ : L2.St} {ds res : List D} {ns : List Int} {Q : VK} (R : Rel K δ F own G H ρ γ σ) (e1 : fi ρ γ = some (ds, ρ1, γ1)) (e2 : lcL vs gg ft fe ds [] (unS vs ρ1) γ1 = some (res, ρ', γ'))
    (e3 : intsOf res = some ns) (hz : ns.length + 1 < scanBound) (k : ∀ Z G' H', Rel K δ F own G' H' ρ' γ' σ → Same G G' → Free δ F own G' ρ' Z → H' Z = some (SetL w Z ns.reverse) → Q (.ref Z) H') : tScI w wi g tt te vs σ H Q := by
  refine hi δ F own G H ρ γ σ ds _ _ _ R e1 fun J G1 H1 R1 s1 it => ?_
  intro Z hZ
  have f0 : Free δ F own G1 ρ1 Z := R1.live hZ
  have R1' := (R1.updF (o := SetL w Z []) f0).forget vs (σ' := σ) rfl fun _ _ => rfl
  refine ⟨fun i m H => m = ds.length - i ∧ i ≤ ds.length ∧ ∃ G ρ γ acc l, Rel K δ F own G H ρ γ σ ∧ Same G1 G ∧ Free δ F own G ρ Z ∧ H Z = some (SetL w Z l.reverse) ∧ intsOf acc = some l ∧ unS vs ρ = ρ ∧ lcL vs gg ft fe (ds.drop i) acc ρ γ = some (res, ρ', γ'),
    ⟨ds.length, by simp, Nat.zero_le _, G1, unS vs ρ1, γ1, [], [], R1', Same.refl _, f0.unS vs, upd_same, rfl, unS_unS vs ρ1, e2⟩, ?_⟩
  rintro i m H2 ⟨rfl, hle, G2, ρ2, γ2, acc, l, R2, s2, f2, h2, ha, eu, e4⟩
  by_cases hlt : i < ds.length
  · obtain ⟨d, hd, hdr⟩ := drop_at hlt
    rw [hdr] at e4
    obtain ⟨ρ3, e5, e6⟩ := bind_some e4
    obtain ⟨⟨b, ρ4, γ4⟩, e7, e8⟩ := bind_some e6
    obtain ⟨gn, gy⟩ := it.go G2 H2 s2 R2.sub i d hd
    refine Or.inr ⟨gn, fun H' => ∃ G ρ γ acc l, Rel K δ F own G H' ρ γ σ ∧ Same G1 G ∧ Free δ F own G ρ Z ∧ H' Z = some (SetL w Z l.reverse) ∧ intsOf acc = some l ∧ unS vs ρ = ρ ∧ lcL vs gg ft fe (ds.drop (i + 1)) acc ρ γ = some (res, ρ', γ'),
      fun H' h => ⟨ds.length - (i + 1), by omega, rfl, hlt, h⟩, fun x H3 y => ?_⟩
    obtain ⟨G3, st, rx⟩ := gy x H3 y
    have R3 := ((R2.keepP f2 h2).step st).wipe vs
    rw [eu] at R3
    refine hg δ _ own G3 H3 ρ2 γ2 (wipe σ vs) x d ρ3 _ R3 rx e5 fun σ4 R4 w4 => ?_
    have hw : wipe σ4 vs = wipe σ vs := by rw [w4 vs hv, wipe_wipe]
    have hlen : σ4.length = σ.length := by rw [← wipe_length σ4 vs, hw, wipe_length]
    refine ⟨hw, ht δ _ own G3 H3 ρ3 γ2 σ4 b _ _ _ R4 e7 fun G4 H4 R5 s5 => ?_⟩
    cases b with
    | false =>
      have e8 : lcL vs gg ft fe (ds.drop (i + 1)) acc (unS vs ρ4) γ4 = some (res, ρ', γ') := e8
      obtain ⟨R6, f6, h6⟩ := Rel.unkeepP R2.g0 f2 R5
      exact iteF ⟨G4, unS vs ρ4, γ4, acc, l, R6.unwipe hlen hw, s2.trans (st.sg.trans s5), f6.unS vs, h6, ha, unS_unS _ _, e8⟩
    | true =>
      obtain ⟨⟨d', ρ5, γ5⟩, e9, e10⟩ := bind_some e8
      split at e10
      case isFalse => cases e10
      refine iteT (he δ _ own G4 H4 _ _ σ4 d' _ _ _ R5 e9 fun v G5 H5 R6 s6 r6 => ?_)
      obtain ⟨R7, f7, h7⟩ := Rel.unkeepP R2.g0 f2 R6
      obtain ⟨t, et⟩ := lcL_grows e10
      have et : res = acc ++ [d'] ++ t := et
      rw [et] at e3
      obtain ⟨n1, n2, q1, q2, q3⟩ := intsOf_app e3
      obtain ⟨n3, n4, q4, q5, q6⟩ := intsOf_app q1
      rw [ha] at q4
      cases q4
      simp only [intsOf] at q5
      obtain ⟨c, c1, c2⟩ := bind_some q5
      cases c2
      rw [intOf_some c1] at r6
      cases r6.int_inv
      have room : cnt l.reverse + 1 < scanBound := by
        have h1 := cnt_le l.reverse
        have h3 : l.length ≤ ns.length := by rw [q3, q6]; simp only [List.length_append]; omega
        rw [List.length_reverse] at h1
        omega
      refine ⟨c, l.reverse, rfl, h7, room, G5, unS vs ρ5, γ5, acc ++ [d'], l ++ [c], (R7.updF f7).unwipe hlen hw, s2.trans ((st.sg.trans s5).trans s6), f7.unS vs, ?_, ?_, unS_unS _ _, e10⟩
      · rw [upd_same, List.reverse_append]; rfl
      · rw [q1, q6]
  · have ei : i = ds.length := by omega
    subst ei
    rw [List.drop_length] at e4
    cases e4
    rw [ha] at e3
    cases e3
    exact Or.inl ⟨it.stop G2 H2 s2 R2.sub, k Z G2 H2 R2 (s1.trans s2) f2 h2⟩
theorem sw_trueS {elt : Expr} {gs : List Comprehension} {scope : Scope} {pos py : Pos} {y : Str} {l : Nat} {env : Env} (hk : env.scope.kind = .function) (hy : env.scope.names.lookup y = some .local) (hl : (py.line == pos.line) = true)
    (ha : (scope.names.any fun (n, k) => n == y && (k == .local || k == .cell)) = false) : swapsWith (.SetComp elt gs scope pos) (some (.Name y py)) l env = pure true := by
  have k1 : env.kindOf y = some .local := hy
  have k2 : env.blockKind = .function := by unfold Env.blockKind; rw [hk]; rfl
  unfold swapsWith
  simp only [k2, k1, ha, Expr.pos, hl]
  rfl
theorem db_sizes {i j : Nat} {y : Str} {n : Int} (O : Okc X) (hy : X.N[i]? = some y) (hyl : X.env.scope.names.lookup y = some .local) (hsw : swapsWith (.SetComp elt [⟨tg, iter, ifs, 0⟩] scope pos) (some (.Name y py)) spos.line X.env = pure true)
    (hi : DI X tg iter fi) (ok : BlkOk X.N X.env.scope scope own)
    (hg : ∀ (s : Shared) (H : Hp) (C : Addr) (cl : List (Str × Addr)) (fp : List Addr), DG (X.blk s H scope (compEnvC scope cl C X.env) fp) tg ts g)
    (ht : ∀ (s : Shared) (H : Hp) (C : Addr) (cl : List (Str × Addr)) (fp : List Addr), DTs (X.blk s H scope (compEnvC scope cl C X.env) fp) ifs ft)
    (he : ∀ (s : Shared) (H : Hp) (C : Addr) (cl : List (Str × Addr)) (fp : List Addr), DE (X.blk s H scope (compEnvC scope cl C X.env) fp) elt fe)
    (hv : ∀ i ∈ ts, i ∈ own.map (·.2)) (hvar : PE X (.Name y p2) (tVar i)) (hgl : Gl X "len") (hm : X.mg "len" = none) (hs : ∀ x, foldedSetIterable iter X.env x = pure x := by intro _; rfl)
    (he1 : starEach [.Name y p2] X.env = (false, eval (.Name y p2) X.env) :: starEach [] X.env := by rfl) (hpl : (backTo pc (starEach [] X.env)).any (·.1) = false := by rfl) (hmk : behindInMarks .LtE (.Constant (.int n) j p3) = false := by first | exact nobehind _ (by decide) (by decide) | rfl) :
    DB X [.Assign [.Name y py] (.SetComp elt [⟨tg, iter, ifs, 0⟩] scope pos) spos, .Return (some (.Compare (.Call (.Name "len" pl) [.Name y p2] [] pc) [.LtE] [.Constant (.int n) j p3] pq)) pr] (sSizes i fi (own.map (·.2)) g ft fe n) := by
  obtain ⟨wi, pi, qi⟩ := hi
  refine ⟨_, pss_cons (ps_setScI (g := tG X.K ts g) (tt := tT X.K ft) (te := tE X.K fe) O hy hyl hsw pi ok (fun s H C cl fp => (hg s H C cl fp).can) (fun s H C cl fp => (ht s H C cl fp).can) (fun s H C cl fp => (he s H C cl fp).can) hs)
    (pss_one (ps_ret (pe_cmpR od_le (pe_callB cr_lenL hgl hm (by decide +kernel) (pa_cons hvar pa_nil he1) (by decide) (by decide) he1 hpl) (pe_int (i := n)) hmk))), fun δ F ow G H ρ γ σ o E R e k => ?_⟩
  obtain ⟨⟨ds, ρ1, γ1⟩, e1, e⟩ := bind_some e
  obtain ⟨⟨res, ρ2, γ2⟩, e2, e⟩ := bind_some e
  obtain ⟨ns, e3, e⟩ := bind_some e
  split at e
  case isFalse => cases e
  rename_i hz
  obtain ⟨hz, hl⟩ := hz
  cases e
  unfold tSeq tAsg
  refine q_scI qi (gr_can X.K g) (tr_can X.K ft) (er_can X.K fe) hv R e1 e2 e3 hz fun Z G' H' R' sg f' hZ => ?_
  have hl : i < σ.length := R'.len ▸ hl
  refine ⟨.ref Z, get_set_eq hl, Z, ns.reverse, rfl, hZ, ?_⟩
  refine ⟨G', .int _, .int n, .bool (decide (((cnt ns.reverse : Nat) : Int) ≤ n)), R'.sub, .int _, .int _, rfl, fun v G2 H2 st r => ?_⟩
  exact k v G2 H2 ((R'.setU i (.ref Z)).step st).fin r
end
end DL

namespace DL
open PySem PySem.Spec PyProof.Rows L2
section
variable {X : Cx} {a b c e tg : Expr} {fa fb fc : Fx} {fs : Fs} {pos p : Pos} {k : Nat} {f : Addr} {fd : FuncData} {ps : List Str} {fn : Fn} {x : Str}
theorem dt_chain {op op' : CmpOp} {g h : D → D → Option D} (ho : OpR X (compareOp op) (rD X.K g)) (ho' : OpR X (compareOp op') (rD X.K h)) (ha : DE X a fa) (hb : DE X b fb) (hc : DE X c fc)
    (hm : lastMarks [op, op'] [b, c] = false := by with_unfolding_all rfl) : DT X (.Compare a [op, op'] [b, c] pos) (fBl (fChain g h fa fb fc)) := by
  obtain ⟨ta, pa, qa⟩ := ha
  obtain ⟨tb, pb, qb⟩ := hb
  obtain ⟨tc, pc, qc⟩ := hc
  refine ⟨_, pt_chain ho ho' pa pb pc hm, fun δ F own G H ρ γ σ d ρ' γ' Q R e k => ?_⟩
  obtain ⟨⟨w, ρ9, γ9⟩, e0, e⟩ := bind_some e
  obtain ⟨⟨x, ρ1, γ1⟩, e1, e0⟩ := bind_some e0
  obtain ⟨⟨y, ρ2, γ2⟩, e2, e0⟩ := bind_some e0
  obtain ⟨z, e3, e0⟩ := bind_some e0
  have fin : ∀ {w : D} {ρ9 : Row} {γ9 : Bxs} {v : V} {G' H' : Hp}, (match w with | .bool q => some (q, ρ9, γ9) | _ => none) = some (d, ρ', γ') → Rel X.K δ F own G' H' ρ9 γ9 σ → Same G G' → Rep X.K G' v w → ∃ k, v = .bl k ∧ Q k H' := by
    intro w ρ9 γ9 v G' H' e R' s' r
    cases w <;> simp only [reduceCtorEq, Option.some.injEq] at e
    cases e
    exact ⟨_, r.bl_inv, k G' H' R' s'⟩
  refine qa δ F own G H ρ γ σ x _ _ _ R e1 fun v G1 H1 R1 s1 r1 => qb δ F own G1 H1 _ _ σ y _ _ _ R1 e2 fun u G2 H2 R2 s2 r2 => ?_
  refine ⟨G2, x, y, z, R2.sub, r1.mono s2, r2, e3, fun w' G3 H3 st r3 => ?_⟩
  split at e0
  · cases r3.bl_inv
    obtain ⟨⟨c', ρ4, γ4⟩, e4, e0⟩ := bind_some e0
    obtain ⟨d', e5, e0⟩ := map_some e0
    cases e0
    refine ⟨true, rfl, iteT (qc δ F own G3 H3 _ _ σ c' _ _ _ (R2.step st) e4 fun w' G4 H4 R4 s4 r4 => ?_)⟩
    exact ⟨G4, y, c', _, R4.sub, r2.mono (st.sg.trans s4), r4, e5, fun w2 G' H' st' r => fin e (R4.step st') ((((s1.trans s2).trans st.sg).trans s4).trans st'.sg) r⟩
  · cases r3.bl_inv
    cases e0
    cases e
    exact ⟨false, rfl, iteF ⟨false, rfl, k G3 H3 (R2.step st) ((s1.trans s2).trans st.sg)⟩⟩
  · cases e0
theorem dt_isN {j : Nat} {p' : Pos} (ha : DE X a fa) : DT X (.Compare a [.Is] [.Constant .none j p'] pos) (fBl (f1 isNoneD fa)) := by
  obtain ⟨ta, pa, qa⟩ := ha
  refine ⟨_, pt_cmp (pc_isN pa) rfl, fun δ F own G H ρ γ σ d ρ' γ' Q R e k => ?_⟩
  obtain ⟨⟨w, ρ9, γ9⟩, e0, e⟩ := bind_some e
  obtain ⟨⟨x, ρ1, γ1⟩, e1, e0⟩ := bind_some e0
  obtain ⟨z, e3, e0⟩ := map_some e0
  cases e0
  cases e3
  cases e
  refine qa δ F own G H ρ γ σ x _ _ _ R e1 fun v G1 H1 R1 s1 r1 => ?_
  have : decide (v = V.non) = isNone x := by cases r1 <;> simp [isNone]
  exact ⟨isNone x, by rw [this], k G1 H1 R1 s1⟩
theorem dt_notN {j : Nat} {p' : Pos} (ha : DE X a fa) : DT X (.Compare a [.IsNot] [.Constant .none j p'] pos) (fBl (f1 isNotNoneD fa)) := by
  obtain ⟨ta, pa, qa⟩ := ha
  refine ⟨_, pt_cmp (pc_notN pa) rfl, fun δ F own G H ρ γ σ d ρ' γ' Q R e k => ?_⟩
  obtain ⟨⟨w, ρ9, γ9⟩, e0, e⟩ := bind_some e
  obtain ⟨⟨x, ρ1, γ1⟩, e1, e0⟩ := bind_some e0
  obtain ⟨z, e3, e0⟩ := map_some e0
  cases e0
  cases e3
  cases e
  refine qa δ F own G H ρ γ σ x _ _ _ R e1 fun v G1 H1 R1 s1 r1 => ?_
  have : decide (v = V.non) = isNone x := by cases r1 <;> simp [isNone]
  exact ⟨!isNone x, by rw [this], k G1 H1 R1 s1⟩
theorem dq_call0 (O : Okc X) (F : Kp X.prog X.w X.K X.mg X.base k f fd [] fn) (hr : Room k X.A) (hg : Gl X x) (hm : X.mg x = some (.ref f)) (hk : PySem.W.keepIn X.K (.ref f) = true) (hb : Binds X.K fd [] []) (hdb : (x == ("__debug__" : Str)) = false := by decide) :
    DQ X (.Call (.Name x p) [] [] pos) (qCall fn aNil) := by
  refine ⟨fun σ H Q => ∃ (δ : List Addr) (G : Hp) (γ : Bxs) (r : Sl) (γ' : Bxs), Wd X.K δ γ G H ∧ fn [] γ = some (r, γ') ∧ ∀ v G' H', Fin X.K δ ⟨G, H⟩ γ' G' H' → RetV X.K δ ⟨G, H⟩ G' H' v r → Q v H', ⟨fun pins s σ H Q I h => ?_⟩, fun δ F' own G H ρ γ σ s ρ' γ' Q R e k => ?_⟩
  · obtain ⟨δ, G, γ, r, γ', wd, hf, q⟩ := h
    refine wpAny_Call_Name_kw (ld_glob I hg hm ?_ hdb)
    exact PySem.W.callWith_K0 I.kIn hk (run_kp (us := []) O F hr hb rfl I .nil wd .nil hf q)
  · obtain ⟨⟨as, ρ1, γ1⟩, e1, e⟩ := bind_some e
    obtain ⟨⟨r, γ2⟩, e2, e⟩ := map_some e
    cases e
    cases e1
    exact ⟨δ, G, γ, r, _, R.wd, e2, fun v G' H' fin rv => k v G' H' (R.called fin) fin.g0 (R.gave (fun j xs hj => ⟨xs, hj⟩) rv)⟩
end
end DL

namespace KK
open PySem PySem.Spec PyProof.Rows L2 DL
def topS (i : Nat) : Stmt := PySem.Challenge.pw_loggedalike_k02_whole_values_and_product.main.body.getD i (.Pass ⟨0, 0, 0, 0⟩)
abbrev s_is_whole : Stmt := topS 7
abbrev s_is_pair : Stmt := topS 8
abbrev s_is_letters : Stmt := topS 9
abbrev s_is_word : Stmt := topS 10
abbrev s_divisor_of : Stmt := topS 18
abbrev s_is_share : Stmt := topS 19
abbrev s_is_move : Stmt := topS 20
abbrev s_is_value_in : Stmt := topS 21
abbrev s_unit_of : Stmt := topS 22
abbrev s_lowered : Stmt := topS 23
abbrev s_multiplied : Stmt := topS 24
abbrev s_taken_back : Stmt := topS 25
abbrev s_are_of_size : Stmt := topS 26
abbrev s_require_kind : Stmt := topS 27
abbrev s_require_values : Stmt := topS 28
abbrev s_is_value : Stmt := topS 29
abbrev s_unit_like : Stmt := topS 30
abbrev s_product_of : Stmt := topS 31
abbrev s_undone : Stmt := topS 32
abbrev s__law_dice : Stmt := topS 34
abbrev s__law_roll : Stmt := topS 35
abbrev s__law_pick : Stmt := topS 36
abbrev s__law_mixed : Stmt := topS 37
abbrev s__law_word_drawn : Stmt := topS 38
abbrev s__law_gcd : Stmt := topS 39
abbrev s__law_lowest : Stmt := topS 40
abbrev s__law_value_drawn : Stmt := topS 41
abbrev s__law_unit : Stmt := topS 42
abbrev s__law_times : Stmt := topS 43
abbrev s__law_back : Stmt := topS 44
abbrev s__law_product : Stmt := topS 45
abbrev s__law_is_value : Stmt := topS 46
abbrev s__law_odd : Stmt := topS 47
abbrev s__law_right : Stmt := topS 48
abbrev s_law : Stmt := topS 49
def f_is_whole : Fst := (sRet (qE (fAnd (f1 (isD "int") (fV 0)) (fNot (f1 (isD "bool") (fV 0))))))
def F_is_whole : Fn := fnOf 1 f_is_whole
def f_is_pair : Fst := (sRet (qE (fAnd (f1 (isD "tuple") (fV 0)) (f2 eqD (fS lenD (fCons (fV 0) fNil)) (fC (.int 2))))))
def F_is_pair : Fn := fnOf 1 f_is_pair
def f_is_letters : Fst := (sRet (qE (fAnd (f1 (isD "str") (fV 0)) (fS allD (fCons (fQ (qLc (iE (fV 0)) [1] (gN 1) fYes (f2 inD (fV 1) (fC (.str "abcdefghijkl"))))) fNil)))))
def F_is_letters : Fn := fnOf 2 f_is_letters
def f_is_word : Fst := (sRet (qE (fAnd (f1 (isD "str") (fV 0)) (fAnd (f2 leD (fS lenD (fCons (fV 0) fNil)) (fC (.int 100000))) (fQ (qCall F_is_letters (aE (fV 0) aNil)))))))
def F_is_word : Fn := fnOf 1 f_is_word
def f_divisor_of : Fst := (sSeq (sPar 2 3 (qE (fV 0)) (qE (fV 1)))
  (sSeq (sW (fBl (f2 gtD (fV 3) (fC (.int 0)))) (sPar 2 3 (qE (fV 3)) (qE (f2 modD (fV 2) (fV 3)))))
  (sRet (qE (fV 2)))))
def F_divisor_of : Fn := fnOf 4 f_divisor_of
def f_is_share : Fst := (sSeq (sIf (fOrT (fNotT (fTru (fQ (qCall F_is_pair (aE (fV 0) aNil))))) (fNotT (fTru (fS allD (fCons (fQ (qLc (iE (fV 0)) [1] (gN 1) fYes (fAnd (fQ (qCall F_is_whole (aE (fV 1) aNil))) (f2 geD (fV 1) (fC (.int 1)))))) fNil))))) (sRet (qE (fC (.bool false)))) sNext)
  (sRet (qE (f2 eqD (fQ (qCall F_divisor_of (aE (f2 ixD (fV 0) (fC (.int 0))) (aE (f2 ixD (fV 0) (fC (.int 1))) aNil)))) (fC (.int 1))))))
def F_is_share : Fn := fnOf 2 f_is_share
def f_is_move : Fst := (sSeq (sIf (fOrT (fNotT (fTru (f1 (isD "tuple") (fV 0)))) (fOrT (fNotT (fBl (fChain leD leD (fC (.int 1)) (fS lenD (fCons (fV 0) fNil)) (fC (.int 5))))) (fNotT (fTru (fS allD (fCons (fQ (qLc (iE (fV 0)) [1] (gN 1) fYes (fQ (qCall F_is_whole (aE (fV 1) aNil))))) fNil)))))) (sRet (qE (fC (.bool false)))) sNext)
  (sRet (qE (f2 eqD (fQ (qSrt (fV 0))) (fQ (qLR (fR1 (fS lenD (fCons (fV 0) fNil)))))))))
def F_is_move : Fn := fnOf 2 f_is_move
def f_is_value_in : Fst := (sSeq (sIf (fBl (f2 eqD (fV 0) (fC (.str "words")))) (sRet (qCall F_is_letters (aE (fV 1) aNil))) sNext)
  (sSeq (sIf (fBl (f2 eqD (fV 0) (fC (.str "sums")))) (sRet (qCall F_is_whole (aE (fV 1) aNil))) sNext)
  (sRet (qE (fIf (fBl (f2 eqD (fV 0) (fC (.str "shares")))) (fQ (qCall F_is_share (aE (fV 1) aNil))) (fQ (qCall F_is_move (aE (fV 1) aNil))))))))
def F_is_value_in : Fn := fnOf 2 f_is_value_in
def f_unit_of : Fst := (sSeq (sIf (fBl (f2 eqD (fV 0) (fC (.str "words")))) (sRet (qE (fC (.str "")))) sNext)
  (sSeq (sIf (fBl (f2 eqD (fV 0) (fC (.str "sums")))) (sRet (qE (fC (.int 0)))) sNext)
  (sRet (qE (fIf (fBl (f2 eqD (fV 0) (fC (.str "shares")))) (fTup (fCons (fC (.int 1)) (fCons (fC (.int 1)) fNil))) (fTupR (fR1 (fS lenD (fCons (fV 1) fNil)))))))))
def F_unit_of : Fn := fnOf 2 f_unit_of
def f_lowered : Fst := (sSeq (sSet 2 (qCall F_divisor_of (aE (fV 0) (aE (fV 1) aNil))))
  (sRet (qE (fTup (fCons (f2 fdivD (fV 0) (fV 2)) (fCons (f2 fdivD (fV 1) (fV 2)) fNil))))))
def F_lowered : Fn := fnOf 3 f_lowered
def f_multiplied : Fst := (sSeq (sIf (fBl (f2 inD (fV 0) (fTup (fCons (fC (.str "words")) (fCons (fC (.str "sums")) fNil))))) (sRet (qE (f2 addD (fV 1) (fV 2)))) sNext)
  (sSeq (sIf (fBl (f2 eqD (fV 0) (fC (.str "shares")))) (sRet (qCall F_lowered (aE (f2 mulD (f2 ixD (fV 1) (fC (.int 0))) (f2 ixD (fV 2) (fC (.int 0)))) (aE (f2 mulD (f2 ixD (fV 1) (fC (.int 1))) (f2 ixD (fV 2) (fC (.int 1)))) aNil)))) sNext)
  (sRet (qE (fTupO (fQ (qLc (iE (fV 1)) [3] (gN 3) fYes (f2 ixD (fV 2) (fV 3)))))))))
def F_multiplied : Fn := fnOf 4 f_multiplied
def f_taken_back : Fst := (sSeq (sIf (fBl (f2 eqD (fV 0) (fC (.str "sums")))) (sRet (qE (f1 negD (fV 1)))) sNext)
  (sSeq (sIf (fBl (f2 eqD (fV 0) (fC (.str "shares")))) (sRet (qE (fTup (fCons (f2 ixD (fV 1) (fC (.int 1))) (fCons (f2 ixD (fV 1) (fC (.int 0))) fNil))))) sNext)
  (sRet (qE (fTupO (fQ (qLc (iR range1D (fCons (fS lenD (fCons (fV 1) fNil)) fNil)) [2] (gN 2) fYes (fM indexD (fV 1) (fCons (fV 2) fNil)))))))))
def F_taken_back : Fn := fnOf 3 f_taken_back
def f_are_of_size : Fst := (sSizes 1 (iE (fV 0)) [2] (gN 2) (fTru (f1 (isD "tuple") (fV 2))) (fS lenD (fCons (fV 2) fNil)) (1))
def F_are_of_size : Fn := fnOf 3 f_are_of_size
def f_require_kind : Fst := (sIf (fOrT (fNotT (fTru (f1 (isD "str") (fV 0)))) (fBl (f2 notInD (fV 0) (fC (.tuple [(.str "words"), (.str "sums"), (.str "shares"), (.str "moves")]))))) (fun _ _ => none) sNext)
def F_require_kind : Fn := fnOf 1 f_require_kind
def f_require_values : Fst := (sSeq (sFor (iE (fV 1)) (gN 2) (sIf (fOrT (fNotT (fTru (fQ (qCall F_is_value_in (aE (fV 0) (aE (fV 2) aNil)))))) (fAndT (fBl (f2 eqD (fV 0) (fC (.str "words")))) (fNotT (fTru (fQ (qCall F_is_word (aE (fV 2) aNil))))))) (fun _ _ => none) sNext))
  (sIf (fAndT (fNotT (fTru (fQ (qCall F_are_of_size (aE (fV 1) aNil))))) (fBl (f2 eqD (fV 0) (fC (.str "moves"))))) (fun _ _ => none) sNext))
def F_require_values : Fn := fnOf 3 f_require_values
def f_is_value : Fst := (sSeq (sDrop (fQ (qCall F_require_kind (aE (fV 0) aNil))))
  (sRet (qE (fAnd (fQ (qCall F_is_value_in (aE (fV 0) (aE (fV 1) aNil)))) (fOr (f2 neD (fV 0) (fC (.str "words"))) (fQ (qCall F_is_word (aE (fV 1) aNil))))))))
def F_is_value : Fn := fnOf 2 f_is_value
def f_unit_like : Fst := (sSeq (sDrop (fQ (qCall F_require_kind (aE (fV 0) aNil))))
  (sSeq (sDrop (fQ (qCall F_require_values (aE (fV 0) (aE (fLst (fCons (fV 1) fNil)) aNil)))))
  (sRet (qCall F_unit_of (aE (fV 0) (aE (fV 1) aNil))))))
def F_unit_like : Fn := fnOf 2 f_unit_like
def f_product_of : Fst := (sSeq (sDrop (fQ (qCall F_require_kind (aE (fV 0) aNil))))
  (sSeq (sIf (fOrT (fNotT (fTru (f1 (isD "tuple") (fV 1)))) (fBl (f2 eqD (fV 1) (fTup fNil)))) (fun _ _ => none) sNext)
  (sSeq (sDrop (fQ (qCall F_require_values (aE (fV 0) (aE (fV 1) aNil)))))
  (sSeq (sIf (fBl (f2 eqD (fV 0) (fC (.str "words")))) (sRet (qE (fM joinD (fC (.str "")) (fCons (fV 1) fNil)))) sNext)
  (sSeq (sSet 2 (qE (f2 ixD (fV 1) (fC (.int 0)))))
  (sSeq (sFor (iE (fSl (fV 1) (fPt (fC (.int 1))) fNo)) (gN 3) (sSet 2 (qCall F_multiplied (aE (fV 0) (aE (fV 2) (aE (fV 3) aNil))))))
  (sRet (qE (fV 2)))))))))
def F_product_of : Fn := fnOf 4 f_product_of
def f_undone : Fst := (sSeq (sDrop (fQ (qCall F_require_kind (aE (fV 0) aNil))))
  (sSeq (sDrop (fQ (qCall F_require_values (aE (fV 0) (aE (fLst (fCons (fV 1) fNil)) aNil)))))
  (sSeq (sIf (fBl (f2 eqD (fV 0) (fC (.str "words")))) (fun _ _ => none) sNext)
  (sRet (qCall F_taken_back (aE (fV 0) (aE (fV 1) aNil)))))))
def F_undone : Fn := fnOf 2 f_undone
def f__law_dice : Fst := (sSeq (sSet 2 (qE (fIf (fBl (f2 ltD (fV 1) (fS lenD (fCons (fV 0) fNil)))) (fS intD (fCons (f2 ixD (fV 0) (fV 1)) fNil)) (f2 addD (f2 mulD (fC (.int 83)) (fV 1)) (fC (.int 29))))))
  (sSeq (sSet 3 (qE (f2 modD (fS max2D (fCons (fC (.int 0)) (fCons (f2 subD (fS absD (fCons (fV 2) fNil)) (f2 powD (fC (.int 10)) (fC (.int 16)))) fNil))) (f2 mulD (f2 powD (fC (.int 10)) (fC (.int 60))) (f2 powD (fC (.int 10)) (fC (.int 60)))))))
  (sRet (qL (fCons (fV 3) (fCons (f2 addD (f2 addD (f2 addD (f2 mulD (f2 modD (fS absD (fCons (fV 2) fNil)) (fC (.int 1152921504606846883))) (fC (.int 47))) (f2 mulD (fC (.int 907)) (fV 1))) (f2 mulD (fC (.int 41)) (fS intD (fCons (f2 ltD (fV 2) (fC (.int 0))) fNil)))) (fC (.int 13))) (fCons (fC (.int 0)) fNil)))))))
def F__law_dice : Fn := fnOf 4 f__law_dice
def f__law_roll : Fst := (sSeq (sIf (fBl (f2 gtD (fIxO 0 (fC (.int 0))) (fC (.int 0)))) (sSeq (sSet 2 (qE (f2 modD (fS intD (fCons (fIxO 0 (fC (.int 0))) fNil)) (fV 1))))
  (sSeq (sSetO 0 (f2 fdivD (fIxO 0 (fC (.int 0))) (fV 1)) (fC (.int 0)))
  (sRet (qE (fV 2))))) sNext)
  (sSeq (sSetO 0 (f2 addD (fIxO 0 (fC (.int 2))) (fC (.int 1))) (fC (.int 2)))
  (sSeq (sSet 3 (qE (f2 modD (fS intD (fCons (f2 addD (fIxO 0 (fC (.int 1))) (f2 mulD (fC (.int 49979687)) (fIxO 0 (fC (.int 2))))) fNil)) (fC (.int 2305843009213693907)))))
  (sSeq (sSet 4 (qE (f2 addD (f2 mulD (f2 modD (fS intD (fCons (f2 addD (f2 mulD (fV 3) (fV 3)) (f2 mulD (fC (.int 97)) (fIxO 0 (fC (.int 2))))) fNil)) (fC (.int 2305843009213693921))) (fC (.int 7368791))) (fV 3))))
  (sRet (qE (f2 modD (fS intD (fCons (f2 fdivD (fV 4) (fC (.int 65536))) fNil)) (fV 1))))))))
def F__law_roll : Fn := fnOf 5 f__law_roll
def f__law_pick : Fst := (sRet (qE (f2 ixD (fV 1) (fQ (qCall F__law_roll (aB 0 (aE (fS lenD (fCons (fV 1) fNil)) aNil)))))))
def F__law_pick : Fn := fnOf 2 f__law_pick
def f__law_mixed : Fst := (sSeq (sPar 2 3 (qList (fV 1)) (qL fNil))
  (sSeq (sFor (iR range1D (fCons (fS lenD (fCons (fV 1) fNil)) fNil)) (gN 4) (sApp 3 (fPopAt 2 (fQ (qCall F__law_roll (aB 0 (aE (fLenO 2) aNil)))))))
  (sRetO 3)))
def F__law_mixed : Fn := fnOf 5 f__law_mixed
def f__law_word_drawn : Fst := (sRet (qE (fM joinD (fC (.str "")) (fCons (fQ (qLc (iR range1D (fCons (fQ (qCall F__law_roll (aB 0 (aE (f2 addD (fV 1) (fC (.int 1))) aNil)))) fNil)) [3] (gN 3) fYes (fQ (qCall F__law_pick (aB 0 (aE (fV 2) aNil)))))) fNil))))
def F__law_word_drawn : Fn := fnOf 4 f__law_word_drawn
def f__law_gcd : Fst := (sSeq (sPar 2 3 (qE (fV 0)) (qE (fV 1)))
  (sSeq (sW (fBl (f2 gtD (fV 3) (fC (.int 0)))) (sPar 2 3 (qE (fV 3)) (qE (f2 modD (fS intD (fCons (fV 2) fNil)) (fV 3)))))
  (sRet (qE (fV 2)))))
def F__law_gcd : Fn := fnOf 4 f__law_gcd
def f__law_lowest : Fst := (sSeq (sSet 2 (qCall F__law_gcd (aE (fV 0) (aE (fV 1) aNil))))
  (sRet (qE (fTup (fCons (f2 fdivD (fV 0) (fV 2)) (fCons (f2 fdivD (fV 1) (fV 2)) fNil))))))
def F__law_lowest : Fn := fnOf 3 f__law_lowest
def f__law_value_drawn : Fst := (sSeq (sIf (fBl (f2 eqD (fV 1) (fC (.str "words")))) (sRet (qCall F__law_word_drawn (aB 0 (aE (fC (.int 4)) (aE (fC (.str "abc")) aNil))))) sNext)
  (sSeq (sIf (fBl (f2 eqD (fV 1) (fC (.str "sums")))) (sRet (qE (f2 subD (fQ (qCall F__law_roll (aB 0 (aE (f2 addD (f2 mulD (fC (.int 2)) (fV 3)) (fC (.int 1))) aNil)))) (fV 3)))) sNext)
  (sSeq (sIf (fBl (f2 eqD (fV 1) (fC (.str "shares")))) (sRet (qCall F__law_lowest (aE (f2 addD (fC (.int 1)) (fQ (qCall F__law_roll (aB 0 (aE (fV 3) aNil))))) (aE (f2 addD (fC (.int 1)) (fQ (qCall F__law_roll (aB 0 (aE (fV 3) aNil))))) aNil)))) sNext)
  (sRet (qE (fTupO (fQ (qCall F__law_mixed (aB 0 (aE (fQ (qLR (fR1 (fV 2)))) aNil))))))))))
def F__law_value_drawn : Fn := fnOf 4 f__law_value_drawn
def f__law_unit : Fst := (sRet (qE (fM getD (fDict (pCons (fC (.str "words")) (fC (.str "")) (pCons (fC (.str "sums")) (fC (.int 0)) (pCons (fC (.str "shares")) (fTup (fCons (fC (.int 1)) (fCons (fC (.int 1)) fNil))) pNil)))) (fCons (fV 0) (fCons (fTupR (fR1 (fV 1))) fNil)))))
def F__law_unit : Fn := fnOf 2 f__law_unit
def f__law_times : Fst := (sSeq (sIf (fBl (f2 inD (fV 0) (fTup (fCons (fC (.str "words")) (fCons (fC (.str "sums")) fNil))))) (sRet (qE (f2 addD (fV 1) (fV 2)))) sNext)
  (sSeq (sIf (fBl (f2 eqD (fV 0) (fC (.str "shares")))) (sRet (qCall F__law_lowest (aE (f2 mulD (f2 ixD (fV 1) (fC (.int 0))) (f2 ixD (fV 2) (fC (.int 0)))) (aE (f2 mulD (f2 ixD (fV 1) (fC (.int 1))) (f2 ixD (fV 2) (fC (.int 1)))) aNil)))) sNext)
  (sRet (qE (fTupO (fQ (qLc (iE (fV 1)) [3] (gN 3) fYes (f2 ixD (fV 2) (fV 3)))))))))
def F__law_times : Fn := fnOf 4 f__law_times
def f__law_back : Fst := (sSeq (sIf (fBl (f2 eqD (fV 0) (fC (.str "sums")))) (sRet (qE (f2 subD (fC (.int 0)) (fV 1)))) sNext)
  (sSeq (sIf (fBl (f2 eqD (fV 0) (fC (.str "shares")))) (sRet (qE (fTup (fCons (f2 ixD (fV 1) (fC (.int 1))) (fCons (f2 ixD (fV 1) (fC (.int 0))) fNil))))) sNext)
  (sSeq (sSet 2 (qRep (fLst (fCons (fC (.int 0)) fNil)) (fS lenD (fCons (fV 1) fNil))))
  (sSeq (sFor (iR range1D (fCons (fS lenD (fCons (fV 1) fNil)) fNil)) (gN 3) (sSetO 2 (fV 3) (f2 ixD (fV 1) (fV 3))))
  (sFz 2 (sRet (qE (fTupO (fV 2)))))))))
def F__law_back : Fn := fnOf 4 f__law_back
def f__law_product : Fst := (sSeq (sSet 3 (qCall F__law_unit (aE (fV 0) (aE (fV 2) aNil))))
  (sSeq (sFor (iE (fV 1)) (gN 4) (sSet 3 (qCall F__law_times (aE (fV 0) (aE (fV 3) (aE (fV 4) aNil))))))
  (sRet (qE (fV 3)))))
def F__law_product : Fn := fnOf 5 f__law_product
def f__law_is_value : Fst := (sSeq (sIf (fBl (f2 eqD (fV 0) (fC (.str "words")))) (sSeq (sSet 2 (qE (fC (.str "abcdefghijkl"))))
  (sRet (qE (fAnd (f1 (isD "str") (fV 1)) (f2 eqD (fQ (qLc (iE (fV 1)) [3] (gN 3) (fBl (f2 notInD (fV 3) (fV 2))) (fC (.int 1)))) (fLst fNil)))))) sNext)
  (sSeq (sIf (fBl (f2 eqD (fV 0) (fC (.str "sums")))) (sRet (qE (fAnd (f1 (isD "int") (fV 1)) (fNot (f1 (isD "bool") (fV 1)))))) sNext)
  (sSeq (sIf (fOrT (fNotT (fTru (f1 (isD "tuple") (fV 1)))) (fBl (f2 neD (fQ (qLc (iE (fV 1)) [4] (gN 4) (fOrT (fNotT (fTru (f1 (isD "int") (fV 4)))) (fTru (f1 (isD "bool") (fV 4)))) (fC (.int 1)))) (fLst fNil)))) (sRet (qE (fC (.bool false)))) sNext)
  (sSeq (sIf (fBl (f2 eqD (fV 0) (fC (.str "shares")))) (sRet (qE (fAnd (f2 eqD (fS lenD (fCons (fV 1) fNil)) (fC (.int 2))) (fAnd (f2 gtD (fS min1D (fCons (fV 1) fNil)) (fC (.int 0))) (f2 eqD (fQ (qCall F__law_gcd (aE (f2 ixD (fV 1) (fC (.int 0))) (aE (f2 ixD (fV 1) (fC (.int 1))) aNil)))) (fC (.int 1))))))) sNext)
  (sRet (qE (fAnd (fChain ltD ltD (fC (.int 0)) (fS lenD (fCons (fV 1) fNil)) (fC (.int 6))) (f2 eqD (fQ (qSrt (fV 1))) (fQ (qLR (fR1 (fS lenD (fCons (fV 1) fNil)))))))))))))
def F__law_is_value : Fn := fnOf 5 f__law_is_value
def f__law_odd : Fst := (sSeq (sSet 1 (qE (fLst (fCons (fC .none) (fCons (fC (.bool true)) (fCons (fC (.str "")) (fCons (fC (.str "a")) (fCons (fC (.str "abl")) (fCons (fC (.str "m")) (fCons (fC (.str "aB")) (fCons (fC (.str "a b")) (fCons (fC (.int 0)) (fCons (f1 negD (fC (.int 7))) (fCons (f2 mulD (f2 powD (fC (.int 10)) (fC (.int 60))) (f2 powD (fC (.int 10)) (fC (.int 20)))) (fCons (fTup (fCons (fC (.int 1)) (fCons (fC (.int 1)) fNil))) (fCons (fTup (fCons (fC (.int 2)) (fCons (fC (.int 4)) fNil))) (fCons (fTup (fCons (fC (.int 2)) (fCons (fC (.int 3)) fNil))) fNil)))))))))))))))))
  (sSeq (sSet 1 (qE (f2 addD (fV 1) (fLst (fCons (fTup (fCons (fC (.int 3)) (fCons (fC (.int 2)) fNil))) (fCons (fTup (fCons (fC (.int 0)) (fCons (fC (.int 1)) fNil))) fNil))))))
  (sSeq (sSet 1 (qE (f2 addD (fV 1) (fLst (fCons (fTup (fCons (fC (.int 1)) (fCons (fC (.int 0)) fNil))) (fCons (fTup (fCons (f1 negD (fC (.int 1))) (fCons (fC (.int 2)) fNil))) (fCons (fTup (fCons (fC (.int 0)) fNil)) (fCons (fTup (fCons (fC (.int 1)) fNil)) (fCons (fTup (fCons (fC (.int 0)) (fCons (fC (.int 1)) (fCons (fC (.int 2)) fNil)))) (fCons (fTup (fCons (fC (.int 2)) (fCons (fC (.int 0)) (fCons (fC (.int 1)) fNil)))) (fCons (fTup (fCons (fC (.int 0)) (fCons (fC (.int 0)) fNil))) (fCons (fTup (fCons (fC (.bool true)) (fCons (fC (.int 1)) fNil))) (fCons (fTup (fCons (fC (.int 0)) (fCons (fC (.bool true)) fNil))) (fCons (fTup fNil) (fCons (fLst fNil) (fCons fDict0 fNil))))))))))))))))
  (sSeq (sSet 1 (qE (f2 addD (fV 1) (fLst (fCons (fTup (fCons (fC (.int 5)) (fCons (fC (.int 4)) (fCons (fC (.int 3)) (fCons (fC (.int 2)) (fCons (fC (.int 1)) (fCons (fC (.int 0)) fNil))))))) (fCons (fTup (fCons (fC (.int 4)) (fCons (fC (.int 3)) (fCons (fC (.int 2)) (fCons (fC (.int 1)) (fCons (fC (.int 0)) fNil)))))) (fCons (fLst (fCons (fC (.int 0)) (fCons (fC (.int 1)) fNil))) (fCons (fTup (fCons (fC (.str "a")) fNil)) (fCons (fTup (fCons (fC (.str "a")) (fCons (fC (.str "b")) fNil))) (fCons (fTup (fCons (fC (.int 1)) (fCons (fC (.int 2)) (fCons (fC (.int 3)) fNil)))) (fCons (fTup (fCons (fC (.int 1)) (fCons (fC .none) fNil))) (fCons (fTup (fCons (fC (.str "0")) (fCons (fC (.str "1")) fNil))) fNil))))))))))))
  (sSeq (sSet 1 (qE (f2 addD (fV 1) (fLst (fCons (fTup (fCons (f2 addD (f2 mulD (f2 powD (fC (.int 10)) (fC (.int 60))) (f2 powD (fC (.int 10)) (fC (.int 10)))) (fC (.int 1))) (fCons (f2 mulD (f2 powD (fC (.int 10)) (fC (.int 60))) (f2 powD (fC (.int 10)) (fC (.int 10)))) fNil))) (fCons (f2 mulD (fC (.str "l")) (fC (.int 100000))) fNil))))))
  (sRet (qE (f2 addD (fSl (fQ (qCall F__law_mixed (aB 0 (aE (fV 1) aNil)))) fNo (fPt (fC (.int 16)))) (fLst (fCons (f2 ixD (fV 1) (fQ (qCall F__law_roll (aB 0 (aE (fS lenD (fCons (fV 1) fNil)) aNil))))) fNil))))))))))
def F__law_odd : Fn := fnOf 2 f__law_odd
def f__law_right : Fst := (sSeq (sAsg (fTup (fCons (f2 addD (fC (.int 1)) (fQ (qCall F__law_roll (aB 0 (aE (fC (.int 5)) aNil))))) (fCons (fQ (qCall F__law_pick (aB 0 (aE (fLst (fCons (fC (.int 3)) (fCons (f2 powD (fC (.int 10)) (fC (.int 12))) (fCons (f2 mulD (f2 powD (fC (.int 10)) (fC (.int 60))) (f2 powD (fC (.int 10)) (fC (.int 30)))) fNil)))) aNil)))) fNil))) (gT 2 (gsC (gN 2) (gsC (gN 3) gsN))))
  (sSeq (sSet 4 (qE (fTupO (fQ (qLc (iR range1D (fCons (f2 addD (fC (.int 1)) (fQ (qCall F__law_roll (aB 0 (aE (fC (.int 7)) aNil))))) fNil)) [5] (gN 5) fYes (fQ (qCall F__law_value_drawn (aB 0 (aE (fV 1) (aE (fV 2) (aE (fV 3) aNil)))))))))))
  (sSeq (sIf (fBl (f2 neD (fQ (qLc (iE (fV 4)) [6] (gN 6) (fBl (f2 isNBD (fQ (qCall F_is_value (aE (fV 1) (aE (fV 6) aNil)))) (fC (.bool true)))) (fC (.int 1)))) (fLst fNil))) (sRet (qE (fC (.bool false)))) sNext)
  (sSeq (sIf (fBl (f2 neD (fQ (qLc (iE (fQ (qCall F__law_odd (aB 0 aNil)))) [6] (gN 6) (fBl (f2 neD (fS reprD (fCons (fQ (qCall F_is_value (aE (fV 1) (aE (fV 6) aNil)))) fNil)) (fS reprD (fCons (fQ (qCall F__law_is_value (aE (fV 1) (aE (fV 6) aNil)))) fNil)))) (fV 6))) (fLst fNil))) (sRet (qE (fC (.bool false)))) sNext)
  (sSeq (sPar 7 8 (qCall F__law_product (aE (fV 1) (aE (fV 4) (aE (fV 2) aNil)))) (qE (f2 addD (fC (.int 1)) (fQ (qCall F__law_roll (aB 0 (aE (fS lenD (fCons (fV 4) fNil)) aNil)))))))
  (sSeq (sIf (fOrT (fBl (f2 neD (fS reprD (fCons (fQ (qCall F_product_of (aE (fV 1) (aE (fV 4) aNil)))) fNil)) (fS reprD (fCons (fV 7) fNil)))) (fBl (f2 neD (fS reprD (fCons (fQ (qCall F_unit_like (aE (fV 1) (aE (f2 ixD (fV 4) (fC (.int 0))) aNil)))) fNil)) (fS reprD (fCons (fQ (qCall F__law_unit (aE (fV 1) (aE (fV 2) aNil)))) fNil))))) (sRet (qE (fC (.bool false)))) sNext)
  (sSeq (sIf (fAndT (fBl (f2 ltD (fV 8) (fS lenD (fCons (fV 4) fNil)))) (fBl (f2 neD (fQ (qCall F_product_of (aE (fV 1) (aE (fTup (fCons (fQ (qCall F_product_of (aE (fV 1) (aE (fSl (fV 4) fNo (fPt (fV 8))) aNil)))) (fCons (fQ (qCall F_product_of (aE (fV 1) (aE (fSl (fV 4) (fPt (fV 8)) fNo) aNil)))) fNil))) aNil)))) (fV 7)))) (sRet (qE (fC (.bool false)))) sNext)
  (sSeq (sSet 9 (qCall F_unit_like (aE (fV 1) (aE (fV 7) aNil))))
  (sSeq (sIf (fOrT (fBl (f2 neD (fQ (qCall F_product_of (aE (fV 1) (aE (fTup (fCons (fV 9) (fCons (fV 7) fNil))) aNil)))) (fV 7))) (fBl (f2 neD (fQ (qCall F_product_of (aE (fV 1) (aE (fTup (fCons (fV 7) (fCons (fV 9) fNil))) aNil)))) (fV 7)))) (sRet (qE (fC (.bool false)))) sNext)
  (sSeq (sIf (fBl (f2 eqD (fV 1) (fC (.str "words")))) (sRet (qE (fC (.bool true)))) sNext)
  (sSeq (sSet 10 (qCall F_undone (aE (fV 1) (aE (fV 7) aNil))))
  (sSeq (sIf (fOrT (fBl (f2 neD (fS reprD (fCons (fV 10) fNil)) (fS reprD (fCons (fQ (qCall F__law_back (aE (fV 1) (aE (fV 7) aNil)))) fNil)))) (fBl (f2 neD (fQ (qCall F_undone (aE (fV 1) (aE (fV 10) aNil)))) (fV 7)))) (sRet (qE (fC (.bool false)))) sNext)
  (sRet (qE (fAnd (f2 eqD (fQ (qCall F_product_of (aE (fV 1) (aE (fTup (fCons (fV 7) (fCons (fV 10) fNil))) aNil)))) (fV 9)) (f2 eqD (fQ (qCall F_product_of (aE (fV 1) (aE (fTup (fCons (fV 10) (fCons (fV 7) fNil))) aNil)))) (fV 9)))))))))))))))))
def F__law_right : Fn := fnOf 11 f__law_right
def f_law : Fst := (sSeq (sFor (iR range1D (fCons (fS max2D (fCons (fC (.int 1)) (fCons (fS min2D (fCons (fC (.int 3)) (fCons (fS lenD (fCons (fV 0) fNil)) fNil))) fNil))) fNil)) (gN 1) (sSeq (sSet 2 (qCall F__law_dice (aE (fV 0) (aE (fV 1) aNil))))
  (sFor (iE (fTup (fCons (fC (.str "words")) (fCons (fC (.str "sums")) (fCons (fC (.str "shares")) (fCons (fC (.str "moves")) fNil)))))) (gN 3) (sIf (fOrT (fNotT (fTru (fQ (qCallO F__law_right 2 (aE (fV 3) aNil))))) (fNotT (fTru (fQ (qCallO F__law_right 2 (aE (fV 3) aNil)))))) (sRet (qE (fC (.bool false)))) sNext))))
  (sSeq (sSet 4 (qE (fLst (fCons (fQ (qCall F_product_of (aE (fC (.str "shares")) (aE (fTup (fCons (fTup (fCons (fC (.int 2)) (fCons (fC (.int 3)) fNil))) (fCons (fTup (fCons (fC (.int 3)) (fCons (fC (.int 4)) fNil))) fNil))) aNil)))) (fCons (fQ (qCall F_product_of (aE (fC (.str "moves")) (aE (fTup (fCons (fTup (fCons (fC (.int 1)) (fCons (fC (.int 2)) (fCons (fC (.int 0)) fNil)))) (fCons (fTup (fCons (fC (.int 1)) (fCons (fC (.int 0)) (fCons (fC (.int 2)) fNil)))) fNil))) aNil)))) fNil)))))
  (sSeq (sSet 4 (qE (f2 addD (fV 4) (fLst (fCons (fQ (qCall F_undone (aE (fC (.str "moves")) (aE (fTup (fCons (fC (.int 1)) (fCons (fC (.int 2)) (fCons (fC (.int 0)) fNil)))) aNil)))) (fCons (fQ (qCall F_product_of (aE (fC (.str "words")) (aE (fTup (fCons (fC (.str "ab")) (fCons (fC (.str "")) (fCons (fC (.str "c")) fNil)))) aNil)))) (fCons (fQ (qCall F_product_of (aE (fC (.str "sums")) (aE (fTup (fCons (fC (.int 2)) (fCons (f1 negD (fC (.int 5))) fNil))) aNil)))) fNil)))))))
  (sSeq (sIf (fBl (f2 neD (fV 4) (fLst (fCons (fTup (fCons (fC (.int 1)) (fCons (fC (.int 2)) fNil))) (fCons (fTup (fCons (fC (.int 0)) (fCons (fC (.int 2)) (fCons (fC (.int 1)) fNil)))) (fCons (fTup (fCons (fC (.int 2)) (fCons (fC (.int 0)) (fCons (fC (.int 1)) fNil)))) (fCons (fC (.str "abc")) (fCons (f1 negD (fC (.int 3))) fNil)))))))) (sRet (qE (fC (.bool false)))) sNext)
  (sRet (qE (fAnd (f2 eqD (fQ (qCall F_unit_like (aE (fC (.str "moves")) (aE (fTup (fCons (fC (.int 0)) fNil)) aNil)))) (fTup (fCons (fC (.int 0)) fNil))) (f2 eqD (fC (.tuple [(.str "words"), (.str "sums"), (.str "shares"), (.str "moves")])) (fTup (fCons (fC (.str "words")) (fCons (fC (.str "sums")) (fCons (fC (.str "shares")) (fCons (fC (.str "moves")) fNil)))))))))))))
def F_law : Fn := fnOf 5 f_law
structure Txt (K : Fg) (mg : Str → Option Value) (ad : Nat → Addr) (fds : Nat → FuncData) : Prop where
  d_is_whole : DefOk K mg "is_whole" s_is_whole ["value"] (ad 0) (fds 0)
  d_is_pair : DefOk K mg "is_pair" s_is_pair ["value"] (ad 1) (fds 1)
  d_is_letters : DefOk K mg "is_letters" s_is_letters ["value"] (ad 2) (fds 2)
  d_is_word : DefOk K mg "is_word" s_is_word ["value"] (ad 3) (fds 3)
  d_divisor_of : DefOk K mg "divisor_of" s_divisor_of ["one", "other"] (ad 4) (fds 4)
  d_is_share : DefOk K mg "is_share" s_is_share ["value"] (ad 5) (fds 5)
  d_is_move : DefOk K mg "is_move" s_is_move ["value"] (ad 6) (fds 6)
  d_is_value_in : DefOk K mg "is_value_in" s_is_value_in ["kind", "value"] (ad 7) (fds 7)
  d_unit_of : DefOk K mg "unit_of" s_unit_of ["kind", "value"] (ad 8) (fds 8)
  d_lowered : DefOk K mg "lowered" s_lowered ["top", "bottom"] (ad 9) (fds 9)
  d_multiplied : DefOk K mg "multiplied" s_multiplied ["kind", "one", "other"] (ad 10) (fds 10)
  d_taken_back : DefOk K mg "taken_back" s_taken_back ["kind", "value"] (ad 11) (fds 11)
  d_are_of_size : DefOk K mg "are_of_size" s_are_of_size ["values"] (ad 12) (fds 12)
  d_require_kind : DefOk K mg "require_kind" s_require_kind ["kind"] (ad 13) (fds 13)
  d_require_values : DefOk K mg "require_values" s_require_values ["kind", "values"] (ad 14) (fds 14)
  d_is_value : DefOk K mg "is_value" s_is_value ["kind", "value"] (ad 15) (fds 15)
  d_unit_like : DefOk K mg "unit_like" s_unit_like ["kind", "value"] (ad 16) (fds 16)
  d_product_of : DefOk K mg "product_of" s_product_of ["kind", "values"] (ad 17) (fds 17)
  d_undone : DefOk K mg "undone" s_undone ["kind", "value"] (ad 18) (fds 18)
  d__law_dice : DefOk K mg "_law_dice" s__law_dice ["script", "spot"] (ad 19) (fds 19)
  d__law_roll : DefOk K mg "_law_roll" s__law_roll ["dice", "total"] (ad 20) (fds 20)
  d__law_pick : DefOk K mg "_law_pick" s__law_pick ["dice", "items"] (ad 21) (fds 21)
  d__law_mixed : DefOk K mg "_law_mixed" s__law_mixed ["dice", "items"] (ad 22) (fds 22)
  d__law_word_drawn : DefOk K mg "_law_word_drawn" s__law_word_drawn ["dice", "most", "letters"] (ad 23) (fds 23)
  d__law_gcd : DefOk K mg "_law_gcd" s__law_gcd ["one", "other"] (ad 24) (fds 24)
  d__law_lowest : DefOk K mg "_law_lowest" s__law_lowest ["top", "bottom"] (ad 25) (fds 25)
  d__law_value_drawn : DefOk K mg "_law_value_drawn" s__law_value_drawn ["dice", "kind", "size", "most"] (ad 26) (fds 26)
  d__law_unit : DefOk K mg "_law_unit" s__law_unit ["kind", "size"] (ad 27) (fds 27)
  d__law_times : DefOk K mg "_law_times" s__law_times ["kind", "one", "other"] (ad 28) (fds 28)
  d__law_back : DefOk K mg "_law_back" s__law_back ["kind", "value"] (ad 29) (fds 29)
  d__law_product : DefOk K mg "_law_product" s__law_product ["kind", "values", "size"] (ad 30) (fds 30)
  d__law_is_value : DefOk K mg "_law_is_value" s__law_is_value ["kind", "value"] (ad 31) (fds 31)
  d__law_odd : DefOk K mg "_law_odd" s__law_odd ["dice"] (ad 32) (fds 32)
  d__law_right : DefOk K mg "_law_right" s__law_right ["dice", "kind"] (ad 33) (fds 33)
  d_law : DefOk K mg "law" s_law ["script"] (ad 34) (fds 34)
  b_abs : mg "abs" = none
  b_all : mg "all" = none
  b_bool : mg "bool" = none
  b_int : mg "int" = none
  b_isinstance : mg "isinstance" = none
  b_len : mg "len" = none
  b_list : mg "list" = none
  b_max : mg "max" = none
  b_min : mg "min" = none
  b_range : mg "range" = none
  b_repr : mg "repr" = none
  b_sorted : mg "sorted" = none
  b_str : mg "str" = none
  b_tuple : mg "tuple" = none
  c_KINDS : CTup K mg "KINDS" [(.str "words"), (.str "sums"), (.str "shares"), (.str "moves")]
  c_LETTERS : ∃ t, mg "LETTERS" = some (.str "abcdefghijkl" t)
  c_MOST_LONG : ∃ t, mg "MOST_LONG" = some (.int 100000 t)
  c_MOST_MOVED : ∃ t, mg "MOST_MOVED" = some (.int 5 t)
  c_MOVES : ∃ t, mg "MOVES" = some (.str "moves" t)
  c_PAIR_SIZE : ∃ t, mg "PAIR_SIZE" = some (.int 2 t)
  c_SHARES : ∃ t, mg "SHARES" = some (.str "shares" t)
  c_SUMS : ∃ t, mg "SUMS" = some (.str "sums" t)
  c_WORDS : ∃ t, mg "WORDS" = some (.str "words" t)
section
variable {P : Program} {w : World} {K : Fg} {mg : Str → Option Value} {base : Heap} {ad : Nat → Addr} {fds : Nat → FuncData}
theorem sc_is_whole : FnScope ["value"] ["value"] (defScope s_is_whole) := ⟨rfl, rfl, rfl, by decide +kernel, rfl, by decide +kernel, by decide +kernel⟩
theorem kp_is_whole (T : Txt K mg ad fds) : Kp P w K mg base 2 (ad 0) (fds 0) ["value"] F_is_whole := by
  have b_bool := T.b_bool
  have b_int := T.b_int
  have b_isinstance := T.b_isinstance
  exact Kp.of (k := 0) T.d_is_whole.fn sc_is_whole fun cdv A outer s H O hr => by
    unfold f_is_whole
    exact (db_one (ds_ret (dq_e (de_and (de_isi (de_var (pv 0)) (by rfl) b_isinstance (pe_bltn (v := .ty "int") (by rfl) b_int (by decide +kernel) rfl)) (de_one (de_not (de_isi (de_var (pv 0)) (by rfl) b_isinstance (pe_bltn (v := .ty "bool") (by rfl) b_bool (by decide +kernel) rfl))))))))
theorem sc_is_pair : FnScope ["value"] ["value"] (defScope s_is_pair) := ⟨rfl, rfl, rfl, by decide +kernel, rfl, by decide +kernel, by decide +kernel⟩
theorem kp_is_pair (T : Txt K mg ad fds) : Kp P w K mg base 2 (ad 1) (fds 1) ["value"] F_is_pair := by
  have b_isinstance := T.b_isinstance
  have b_len := T.b_len
  have b_tuple := T.b_tuple
  obtain ⟨t_PAIR_SIZE, c_PAIR_SIZE⟩ := T.c_PAIR_SIZE
  exact Kp.of (k := 0) T.d_is_pair.fn sc_is_pair fun cdv A outer s H O hr => by
    unfold f_is_pair
    exact (db_one (ds_ret (dq_e (de_and (de_isi (de_var (pv 0)) (by rfl) b_isinstance (pe_bltn (v := .ty "tuple") (by rfl) b_tuple (by decide +kernel) rfl)) (de_one (de_cmp (od_eq O) (de_callB cd_len (by rfl) b_len (by decide +kernel) (da_cons (de_var (pv 0)) da_nil)) (de_const (v := .int 2) (pe_glob (by rfl) c_PAIR_SIZE ⟨_, rfl⟩) fun _ => .int _)))))))
theorem sc_is_letters : FnScope ["value", "letter"] ["value"] (defScope s_is_letters) := ⟨rfl, rfl, rfl, by decide +kernel, rfl, by decide +kernel, by decide +kernel⟩
theorem kp_is_letters (T : Txt K mg ad fds) : Kp P w K mg base 2 (ad 2) (fds 2) ["value"] F_is_letters := by
  have b_all := T.b_all
  have b_isinstance := T.b_isinstance
  have b_str := T.b_str
  obtain ⟨t_LETTERS, c_LETTERS⟩ := T.c_LETTERS
  exact Kp.of (k := 0) T.d_is_letters.fn sc_is_letters fun cdv A outer s H O hr => by
    unfold f_is_letters
    exact (db_one (ds_ret (dq_e (de_and (de_isi (de_var (pv 0)) (by rfl) b_isinstance (pe_bltn (v := .ty "str") (by rfl) b_str (by decide +kernel) rfl)) (de_one (de_callB (cd_all O) (by rfl) b_all (by decide +kernel) (da_cons (de_q (dq_lc (own := [(("letter" : Str), 1)]) O (di_e (de_var (pv 0))) (blkOk_by (N := ["value", "letter"]) (sc := defScope s_is_letters) (by decide +kernel)) (fun s1 H1 C1 cl1 fp1 => (dg_name (i := 1) (O.blk s1 H1 C1 cl1 fp1) rfl (Or.inl rfl))) (fun s1 H1 C1 cl1 fp1 => dts_nil) (fun s1 H1 C1 cl1 fp1 => (de_cmp (od_in (O.blk s1 H1 C1 cl1 fp1)) (de_var (pv 1)) (de_const (v := .str "abcdefghijkl") (pe_glob (by rfl) c_LETTERS ⟨_, rfl⟩) fun _ => .str _))) (by decide))) da_nil)))))))
theorem sc_is_word : FnScope ["value"] ["value"] (defScope s_is_word) := ⟨rfl, rfl, rfl, by decide +kernel, rfl, by decide +kernel, by decide +kernel⟩
theorem kp_is_word (T : Txt K mg ad fds) : Kp P w K mg base 3 (ad 3) (fds 3) ["value"] F_is_word := by
  have b_isinstance := T.b_isinstance
  have b_len := T.b_len
  have b_str := T.b_str
  obtain ⟨t_MOST_LONG, c_MOST_LONG⟩ := T.c_MOST_LONG
  exact Kp.of (k := 1) T.d_is_word.fn sc_is_word fun cdv A outer s H O hr => by
    unfold f_is_word
    exact (db_one (ds_ret (dq_e (de_and (de_isi (de_var (pv 0)) (by rfl) b_isinstance (pe_bltn (v := .ty "str") (by rfl) b_str (by decide +kernel) rfl)) (de_and (de_cmp od_le (de_callB cd_len (by rfl) b_len (by decide +kernel) (da_cons (de_var (pv 0)) da_nil)) (de_const (v := .int 100000) (pe_glob (by rfl) c_MOST_LONG ⟨_, rfl⟩) fun _ => .int _)) (de_one (de_q (dq_call O (kp_is_letters T) (hr.mono (by decide)) (by rfl) T.d_is_letters.m T.d_is_letters.fn.kp T.d_is_letters.b (dar_e (de_var (pv 0)) dar_nil)))))))))
theorem sc_divisor_of : FnScope ["one", "other", "left", "right"] ["one", "other"] (defScope s_divisor_of) := ⟨rfl, rfl, rfl, by decide +kernel, rfl, by decide +kernel, by decide +kernel⟩
theorem kp_divisor_of (T : Txt K mg ad fds) : Kp P w K mg base 2 (ad 4) (fds 4) ["one", "other"] F_divisor_of := by
  exact Kp.of (k := 0) T.d_divisor_of.fn sc_divisor_of fun cdv A outer s H O hr => by
    unfold f_divisor_of
    exact (db_cons (ds_par (i := 2) (j := 3) O rfl rfl (by decide) rfl rfl (dq_e (de_var (pv 0))) (dq_e (de_var (pv 1))))
      (db_cons (ds_w O (dt_cmp od_gt (de_var (pv 3)) de_int) (db_one (ds_par (i := 2) (j := 3) O rfl rfl (by decide) rfl rfl (dq_e (de_var (pv 3))) (dq_e (de_bin od_mod (de_var (pv 2)) (de_var (pv 3)))))))
      (db_one (ds_ret (dq_e (de_var (pv 2)))))))
theorem sc_is_share : FnScope ["value", "one"] ["value"] (defScope s_is_share) := ⟨rfl, rfl, rfl, by decide +kernel, rfl, by decide +kernel, by decide +kernel⟩
theorem kp_is_share (T : Txt K mg ad fds) : Kp P w K mg base 3 (ad 5) (fds 5) ["value"] F_is_share := by
  have b_all := T.b_all
  exact Kp.of (k := 1) T.d_is_share.fn sc_is_share fun cdv A outer s H O hr => by
    unfold f_is_share
    exact (db_cons (ds_if (dt_w (dw_or (dt_not (dt_tru (de_q (dq_call O (kp_is_pair T) (hr.mono (by decide)) (by rfl) T.d_is_pair.m T.d_is_pair.fn.kp T.d_is_pair.b (dar_e (de_var (pv 0)) dar_nil))))) (dw_or1 (dt_not (dt_tru (de_callB (cd_all O) (by rfl) b_all (by decide +kernel) (da_cons (de_q (dq_lc (own := [(("one" : Str), 1)]) O (di_e (de_var (pv 0))) (blkOk_by (N := ["value", "one"]) (sc := defScope s_is_share) (by decide +kernel)) (fun s1 H1 C1 cl1 fp1 => (dg_name (i := 1) (O.blk s1 H1 C1 cl1 fp1) rfl (Or.inl rfl))) (fun s1 H1 C1 cl1 fp1 => dts_nil) (fun s1 H1 C1 cl1 fp1 => (de_and (de_q (dq_call (O.blk s1 H1 C1 cl1 fp1) (kp_is_whole T) (hr.mono (by decide)) (by rfl) T.d_is_whole.m T.d_is_whole.fn.kp T.d_is_whole.b (dar_e (de_var (pv 1)) dar_nil))) (de_one (de_cmp od_ge (de_var (pv 1)) de_int)))) (by decide))) da_nil))))))) (db_one (ds_ret (dq_e de_bl))) db_nil)
      (db_one (ds_ret (dq_e (de_cmp (od_eq O) (de_q (dq_call O (kp_divisor_of T) (hr.mono (by decide)) (by rfl) T.d_divisor_of.m T.d_divisor_of.fn.kp T.d_divisor_of.b (dar_e (de_ix (de_var (pv 0)) de_int) (dar_e (de_ix (de_var (pv 0)) de_int) dar_nil)))) de_int)))))
theorem sc_is_move : FnScope ["value", "one"] ["value"] (defScope s_is_move) := ⟨rfl, rfl, rfl, by decide +kernel, rfl, by decide +kernel, by decide +kernel⟩
theorem kp_is_move (T : Txt K mg ad fds) : Kp P w K mg base 3 (ad 6) (fds 6) ["value"] F_is_move := by
  have b_all := T.b_all
  have b_isinstance := T.b_isinstance
  have b_len := T.b_len
  have b_list := T.b_list
  have b_range := T.b_range
  have b_sorted := T.b_sorted
  have b_tuple := T.b_tuple
  obtain ⟨t_MOST_MOVED, c_MOST_MOVED⟩ := T.c_MOST_MOVED
  exact Kp.of (k := 1) T.d_is_move.fn sc_is_move fun cdv A outer s H O hr => by
    unfold f_is_move
    exact (db_cons (ds_if (dt_w (dw_or (dt_not (dt_tru (de_isi (de_var (pv 0)) (by rfl) b_isinstance (pe_bltn (v := .ty "tuple") (by rfl) b_tuple (by decide +kernel) rfl)))) (dw_or (dt_not (dt_chain od_le od_le de_int (de_callB cd_len (by rfl) b_len (by decide +kernel) (da_cons (de_var (pv 0)) da_nil)) (de_const (v := .int 5) (pe_glob (by rfl) c_MOST_MOVED ⟨_, rfl⟩) fun _ => .int _))) (dw_or1 (dt_not (dt_tru (de_callB (cd_all O) (by rfl) b_all (by decide +kernel) (da_cons (de_q (dq_lc (own := [(("one" : Str), 1)]) O (di_e (de_var (pv 0))) (blkOk_by (N := ["value", "one"]) (sc := defScope s_is_move) (by decide +kernel)) (fun s1 H1 C1 cl1 fp1 => (dg_name (i := 1) (O.blk s1 H1 C1 cl1 fp1) rfl (Or.inl rfl))) (fun s1 H1 C1 cl1 fp1 => dts_nil) (fun s1 H1 C1 cl1 fp1 => (de_q (dq_call (O.blk s1 H1 C1 cl1 fp1) (kp_is_whole T) (hr.mono (by decide)) (by rfl) T.d_is_whole.m T.d_is_whole.fn.kp T.d_is_whole.b (dar_e (de_var (pv 1)) dar_nil)))) (by decide))) da_nil)))))))) (db_one (ds_ret (dq_e de_bl))) db_nil)
      (db_one (ds_ret (dq_e (de_cmp (od_eq O) (de_q (dq_srt (de_var (pv 0)) (by rfl) b_sorted)) (de_q (dq_listRg (drg_1 (de_callB cd_len (by rfl) b_len (by decide +kernel) (da_cons (de_var (pv 0)) da_nil)) (by rfl) b_range) O (by rfl) b_list)))))))
theorem sc_is_value_in : FnScope ["kind", "value"] ["kind", "value"] (defScope s_is_value_in) := ⟨rfl, rfl, rfl, by decide +kernel, rfl, by decide +kernel, by decide +kernel⟩
theorem kp_is_value_in (T : Txt K mg ad fds) : Kp P w K mg base 4 (ad 7) (fds 7) ["kind", "value"] F_is_value_in := by
  obtain ⟨t_SHARES, c_SHARES⟩ := T.c_SHARES
  obtain ⟨t_SUMS, c_SUMS⟩ := T.c_SUMS
  obtain ⟨t_WORDS, c_WORDS⟩ := T.c_WORDS
  exact Kp.of (k := 2) T.d_is_value_in.fn sc_is_value_in fun cdv A outer s H O hr => by
    unfold f_is_value_in
    exact (db_cons (ds_if (dt_cmp (od_eq O) (de_var (pv 0)) (de_const (v := .str "words") (pe_glob (by rfl) c_WORDS ⟨_, rfl⟩) fun _ => .str _)) (db_one (ds_ret (dq_call O (kp_is_letters T) (hr.mono (by decide)) (by rfl) T.d_is_letters.m T.d_is_letters.fn.kp T.d_is_letters.b (dar_e (de_var (pv 1)) dar_nil)))) db_nil)
      (db_cons (ds_if (dt_cmp (od_eq O) (de_var (pv 0)) (de_const (v := .str "sums") (pe_glob (by rfl) c_SUMS ⟨_, rfl⟩) fun _ => .str _)) (db_one (ds_ret (dq_call O (kp_is_whole T) (hr.mono (by decide)) (by rfl) T.d_is_whole.m T.d_is_whole.fn.kp T.d_is_whole.b (dar_e (de_var (pv 1)) dar_nil)))) db_nil)
      (db_one (ds_ret (dq_e (de_if (dt_cmp (od_eq O) (de_var (pv 0)) (de_const (v := .str "shares") (pe_glob (by rfl) c_SHARES ⟨_, rfl⟩) fun _ => .str _)) (de_q (dq_call O (kp_is_share T) (hr.mono (by decide)) (by rfl) T.d_is_share.m T.d_is_share.fn.kp T.d_is_share.b (dar_e (de_var (pv 1)) dar_nil))) (de_q (dq_call O (kp_is_move T) (hr.mono (by decide)) (by rfl) T.d_is_move.m T.d_is_move.fn.kp T.d_is_move.b (dar_e (de_var (pv 1)) dar_nil)))))))))
theorem sc_unit_of : FnScope ["kind", "value"] ["kind", "value"] (defScope s_unit_of) := ⟨rfl, rfl, rfl, by decide +kernel, rfl, by decide +kernel, by decide +kernel⟩
theorem kp_unit_of (T : Txt K mg ad fds) : Kp P w K mg base 2 (ad 8) (fds 8) ["kind", "value"] F_unit_of := by
  have b_len := T.b_len
  have b_range := T.b_range
  have b_tuple := T.b_tuple
  obtain ⟨t_SHARES, c_SHARES⟩ := T.c_SHARES
  obtain ⟨t_SUMS, c_SUMS⟩ := T.c_SUMS
  obtain ⟨t_WORDS, c_WORDS⟩ := T.c_WORDS
  exact Kp.of (k := 0) T.d_unit_of.fn sc_unit_of fun cdv A outer s H O hr => by
    unfold f_unit_of
    exact (db_cons (ds_if (dt_cmp (od_eq O) (de_var (pv 0)) (de_const (v := .str "words") (pe_glob (by rfl) c_WORDS ⟨_, rfl⟩) fun _ => .str _)) (db_one (ds_ret (dq_e de_str))) db_nil)
      (db_cons (ds_if (dt_cmp (od_eq O) (de_var (pv 0)) (de_const (v := .str "sums") (pe_glob (by rfl) c_SUMS ⟨_, rfl⟩) fun _ => .str _)) (db_one (ds_ret (dq_e de_int))) db_nil)
      (db_one (ds_ret (dq_e (de_if (dt_cmp (od_eq O) (de_var (pv 0)) (de_const (v := .str "shares") (pe_glob (by rfl) c_SHARES ⟨_, rfl⟩) fun _ => .str _)) (de_tup (da_cons de_int (da_cons de_int da_nil))) (de_tupRg (drg_1 (de_callB cd_len (by rfl) b_len (by decide +kernel) (da_cons (de_var (pv 1)) da_nil)) (by rfl) b_range) O (by rfl) b_tuple)))))))
theorem sc_lowered : FnScope ["top", "bottom", "common"] ["top", "bottom"] (defScope s_lowered) := ⟨rfl, rfl, rfl, by decide +kernel, rfl, by decide +kernel, by decide +kernel⟩
theorem kp_lowered (T : Txt K mg ad fds) : Kp P w K mg base 3 (ad 9) (fds 9) ["top", "bottom"] F_lowered := by
  exact Kp.of (k := 1) T.d_lowered.fn sc_lowered fun cdv A outer s H O hr => by
    unfold f_lowered
    exact (db_cons (ds_set (i := 2) O rfl (Or.inl rfl) (dq_call O (kp_divisor_of T) (hr.mono (by decide)) (by rfl) T.d_divisor_of.m T.d_divisor_of.fn.kp T.d_divisor_of.b (dar_e (de_var (pv 0)) (dar_e (de_var (pv 1)) dar_nil))))
      (db_one (ds_ret (dq_e (de_tup (da_cons (de_bin od_fdiv (de_var (pv 0)) (de_var (pv 2))) (da_cons (de_bin od_fdiv (de_var (pv 1)) (de_var (pv 2))) da_nil)))))))
theorem sc_multiplied : FnScope ["kind", "one", "other", "place"] ["kind", "one", "other"] (defScope s_multiplied) := ⟨rfl, rfl, rfl, by decide +kernel, rfl, by decide +kernel, by decide +kernel⟩
theorem kp_multiplied (T : Txt K mg ad fds) : Kp P w K mg base 4 (ad 10) (fds 10) ["kind", "one", "other"] F_multiplied := by
  have b_tuple := T.b_tuple
  obtain ⟨t_SHARES, c_SHARES⟩ := T.c_SHARES
  obtain ⟨t_SUMS, c_SUMS⟩ := T.c_SUMS
  obtain ⟨t_WORDS, c_WORDS⟩ := T.c_WORDS
  exact Kp.of (k := 2) T.d_multiplied.fn sc_multiplied fun cdv A outer s H O hr => by
    unfold f_multiplied
    exact (db_cons (ds_if (dt_cmp (od_in O) (de_var (pv 0)) (de_tup (da_cons (de_const (v := .str "words") (pe_glob (by rfl) c_WORDS ⟨_, rfl⟩) fun _ => .str _) (da_cons (de_const (v := .str "sums") (pe_glob (by rfl) c_SUMS ⟨_, rfl⟩) fun _ => .str _) da_nil)))) (db_one (ds_ret (dq_e (de_bin od_add (de_var (pv 1)) (de_var (pv 2)))))) db_nil)
      (db_cons (ds_if (dt_cmp (od_eq O) (de_var (pv 0)) (de_const (v := .str "shares") (pe_glob (by rfl) c_SHARES ⟨_, rfl⟩) fun _ => .str _)) (db_one (ds_ret (dq_call O (kp_lowered T) (hr.mono (by decide)) (by rfl) T.d_lowered.m T.d_lowered.fn.kp T.d_lowered.b (dar_e (de_bin od_mul (de_ix (de_var (pv 1)) de_int) (de_ix (de_var (pv 2)) de_int)) (dar_e (de_bin od_mul (de_ix (de_var (pv 1)) de_int) (de_ix (de_var (pv 2)) de_int)) dar_nil))))) db_nil)
      (db_one (ds_ret (dq_e (de_tupOf (de_q (dq_lc (own := [(("place" : Str), 3)]) O (di_e (de_var (pv 1))) (blkOk_by (N := ["kind", "one", "other", "place"]) (sc := defScope s_multiplied) (by decide +kernel)) (fun s1 H1 C1 cl1 fp1 => (dg_name (i := 3) (O.blk s1 H1 C1 cl1 fp1) rfl (Or.inl rfl))) (fun s1 H1 C1 cl1 fp1 => dts_nil) (fun s1 H1 C1 cl1 fp1 => (de_ix (de_var (pv 2)) (de_var (pv 3)))) (by decide))) (by rfl) b_tuple))))))
theorem sc_taken_back : FnScope ["kind", "value", "place"] ["kind", "value"] (defScope s_taken_back) := ⟨rfl, rfl, rfl, by decide +kernel, rfl, by decide +kernel, by decide +kernel⟩
theorem kp_taken_back (T : Txt K mg ad fds) : Kp P w K mg base 2 (ad 11) (fds 11) ["kind", "value"] F_taken_back := by
  have b_len := T.b_len
  have b_range := T.b_range
  have b_tuple := T.b_tuple
  obtain ⟨t_SHARES, c_SHARES⟩ := T.c_SHARES
  obtain ⟨t_SUMS, c_SUMS⟩ := T.c_SUMS
  exact Kp.of (k := 0) T.d_taken_back.fn sc_taken_back fun cdv A outer s H O hr => by
    unfold f_taken_back
    exact (db_cons (ds_if (dt_cmp (od_eq O) (de_var (pv 0)) (de_const (v := .str "sums") (pe_glob (by rfl) c_SUMS ⟨_, rfl⟩) fun _ => .str _)) (db_one (ds_ret (dq_e (de_neg (de_var (pv 1)))))) db_nil)
      (db_cons (ds_if (dt_cmp (od_eq O) (de_var (pv 0)) (de_const (v := .str "shares") (pe_glob (by rfl) c_SHARES ⟨_, rfl⟩) fun _ => .str _)) (db_one (ds_ret (dq_e (de_tup (da_cons (de_ix (de_var (pv 1)) de_int) (da_cons (de_ix (de_var (pv 1)) de_int) da_nil)))))) db_nil)
      (db_one (ds_ret (dq_e (de_tupOf (de_q (dq_lc (own := [(("place" : Str), 2)]) O (di_range1 (by rfl) b_range (da_cons (de_callB cd_len (by rfl) b_len (by decide +kernel) (da_cons (de_var (pv 1)) da_nil)) da_nil)) (blkOk_by (N := ["kind", "value", "place"]) (sc := defScope s_taken_back) (by decide +kernel)) (fun s1 H1 C1 cl1 fp1 => (dg_name (i := 2) (O.blk s1 H1 C1 cl1 fp1) rfl (Or.inl rfl))) (fun s1 H1 C1 cl1 fp1 => dts_nil) (fun s1 H1 C1 cl1 fp1 => (de_bmT PySem.F.slot_tuple_index PySem.F.type_tuple_index (md_index (O.blk s1 H1 C1 cl1 fp1)) indexD_tup (de_var (pv 1)) (da_cons (de_var (pv 2)) da_nil))) (by decide))) (by rfl) b_tuple))))))
theorem sc_are_of_size : FnScope ["values", "sizes", "value"] ["values"] (defScope s_are_of_size) := ⟨rfl, rfl, rfl, by decide +kernel, rfl, by decide +kernel, by decide +kernel⟩
theorem kp_are_of_size (T : Txt K mg ad fds) : Kp P w K mg base 2 (ad 12) (fds 12) ["values"] F_are_of_size := by
  have b_isinstance := T.b_isinstance
  have b_len := T.b_len
  have b_tuple := T.b_tuple
  exact Kp.of (k := 0) T.d_are_of_size.fn sc_are_of_size fun cdv A outer s H O hr => by
    unfold f_are_of_size
    exact (db_sizes (i := 1) (own := [(("value" : Str), 2)]) O rfl rfl (sw_trueS rfl rfl rfl (by decide +kernel)) (di_e (de_var (pv 0))) (blkOk_by (N := ["values", "sizes", "value"]) (sc := defScope s_are_of_size) (by decide +kernel)) (fun s1 H1 C1 cl1 fp1 => (dg_name (i := 2) (O.blk s1 H1 C1 cl1 fp1) rfl (Or.inl rfl))) (fun s1 H1 C1 cl1 fp1 => (dts_one (dt_tru (de_isi (de_var (pv 2)) (by rfl) b_isinstance (pe_bltn (v := .ty "tuple") (by rfl) b_tuple (by decide +kernel) rfl))))) (fun s1 H1 C1 cl1 fp1 => (de_callB cd_len (by rfl) b_len (by decide +kernel) (da_cons (de_var (pv 2)) da_nil))) (by decide) (pv 1) (by rfl) b_len)
theorem sc_require_kind : FnScope ["kind"] ["kind"] (defScope s_require_kind) := ⟨rfl, rfl, rfl, by decide +kernel, rfl, by decide +kernel, by decide +kernel⟩
theorem kp_require_kind (T : Txt K mg ad fds) : Kp P w K mg base 2 (ad 13) (fds 13) ["kind"] F_require_kind := by
  have b_isinstance := T.b_isinstance
  have b_str := T.b_str
  have c_KINDS := T.c_KINDS
  exact Kp.of (k := 0) T.d_require_kind.fn sc_require_kind fun cdv A outer s H O hr => by
    unfold f_require_kind
    exact (db_one (ds_if (dt_w (dw_or (dt_not (dt_tru (de_isi (de_var (pv 0)) (by rfl) b_isinstance (pe_bltn (v := .ty "str") (by rfl) b_str (by decide +kernel) rfl)))) (dw_or1 (dt_cmp (od_notin O) (de_var (pv 0)) (c_KINDS.de (by rfl)))))) (db_one ds_never) db_nil))
theorem sc_require_values : FnScope ["kind", "values", "value"] ["kind", "values"] (defScope s_require_values) := ⟨rfl, rfl, rfl, by decide +kernel, rfl, by decide +kernel, by decide +kernel⟩
theorem kp_require_values (T : Txt K mg ad fds) : Kp P w K mg base 5 (ad 14) (fds 14) ["kind", "values"] F_require_values := by
  obtain ⟨t_MOVES, c_MOVES⟩ := T.c_MOVES
  obtain ⟨t_WORDS, c_WORDS⟩ := T.c_WORDS
  exact Kp.of (k := 3) T.d_require_values.fn sc_require_values fun cdv A outer s H O hr => by
    unfold f_require_values
    exact (db_cons (ds_for O (di_e (de_var (pv 1))) (dg_name (i := 2) O rfl (Or.inl rfl)) (db_one (ds_if (dt_w (dw_or (dt_not (dt_tru (de_q (dq_call O (kp_is_value_in T) (hr.mono (by decide)) (by rfl) T.d_is_value_in.m T.d_is_value_in.fn.kp T.d_is_value_in.b (dar_e (de_var (pv 0)) (dar_e (de_var (pv 2)) dar_nil)))))) (dw_or1 (dt_w (dw_and (dt_cmp (od_eq O) (de_var (pv 0)) (de_const (v := .str "words") (pe_glob (by rfl) c_WORDS ⟨_, rfl⟩) fun _ => .str _)) (dw_and1 (dt_not (dt_tru (de_q (dq_call O (kp_is_word T) (hr.mono (by decide)) (by rfl) T.d_is_word.m T.d_is_word.fn.kp T.d_is_word.b (dar_e (de_var (pv 2)) dar_nil))))))))))) (db_one ds_never) db_nil)))
      (db_one (ds_if (dt_w (dw_and (dt_not (dt_tru (de_q (dq_call O (kp_are_of_size T) (hr.mono (by decide)) (by rfl) T.d_are_of_size.m T.d_are_of_size.fn.kp T.d_are_of_size.b (dar_e (de_var (pv 1)) dar_nil))))) (dw_and1 (dt_cmp (od_eq O) (de_var (pv 0)) (de_const (v := .str "moves") (pe_glob (by rfl) c_MOVES ⟨_, rfl⟩) fun _ => .str _))))) (db_one ds_never) db_nil)))
theorem sc_is_value : FnScope ["kind", "value"] ["kind", "value"] (defScope s_is_value) := ⟨rfl, rfl, rfl, by decide +kernel, rfl, by decide +kernel, by decide +kernel⟩
theorem kp_is_value (T : Txt K mg ad fds) : Kp P w K mg base 5 (ad 15) (fds 15) ["kind", "value"] F_is_value := by
  obtain ⟨t_WORDS, c_WORDS⟩ := T.c_WORDS
  exact Kp.of (k := 3) T.d_is_value.fn sc_is_value fun cdv A outer s H O hr => by
    unfold f_is_value
    exact (db_cons (ds_expr (de_q (dq_call O (kp_require_kind T) (hr.mono (by decide)) (by rfl) T.d_require_kind.m T.d_require_kind.fn.kp T.d_require_kind.b (dar_e (de_var (pv 0)) dar_nil))))
      (db_one (ds_ret (dq_e (de_and (de_q (dq_call O (kp_is_value_in T) (hr.mono (by decide)) (by rfl) T.d_is_value_in.m T.d_is_value_in.fn.kp T.d_is_value_in.b (dar_e (de_var (pv 0)) (dar_e (de_var (pv 1)) dar_nil)))) (de_one (de_or (de_cmp (od_ne O) (de_var (pv 0)) (de_const (v := .str "words") (pe_glob (by rfl) c_WORDS ⟨_, rfl⟩) fun _ => .str _)) (de_one (de_q (dq_call O (kp_is_word T) (hr.mono (by decide)) (by rfl) T.d_is_word.m T.d_is_word.fn.kp T.d_is_word.b (dar_e (de_var (pv 1)) dar_nil)))))))))))
theorem sc_unit_like : FnScope ["kind", "value"] ["kind", "value"] (defScope s_unit_like) := ⟨rfl, rfl, rfl, by decide +kernel, rfl, by decide +kernel, by decide +kernel⟩
theorem kp_unit_like (T : Txt K mg ad fds) : Kp P w K mg base 6 (ad 16) (fds 16) ["kind", "value"] F_unit_like := by
  exact Kp.of (k := 4) T.d_unit_like.fn sc_unit_like fun cdv A outer s H O hr => by
    unfold f_unit_like
    exact (db_cons (ds_expr (de_q (dq_call O (kp_require_kind T) (hr.mono (by decide)) (by rfl) T.d_require_kind.m T.d_require_kind.fn.kp T.d_require_kind.b (dar_e (de_var (pv 0)) dar_nil))))
      (db_cons (ds_expr (de_q (dq_call O (kp_require_values T) (hr.mono (by decide)) (by rfl) T.d_require_values.m T.d_require_values.fn.kp T.d_require_values.b (dar_e (de_var (pv 0)) (dar_e (de_lst (da_cons (de_var (pv 1)) da_nil)) dar_nil)))))
      (db_one (ds_ret (dq_call O (kp_unit_of T) (hr.mono (by decide)) (by rfl) T.d_unit_of.m T.d_unit_of.fn.kp T.d_unit_of.b (dar_e (de_var (pv 0)) (dar_e (de_var (pv 1)) dar_nil)))))))
theorem sc_product_of : FnScope ["kind", "values", "found", "value"] ["kind", "values"] (defScope s_product_of) := ⟨rfl, rfl, rfl, by decide +kernel, rfl, by decide +kernel, by decide +kernel⟩
theorem kp_product_of (T : Txt K mg ad fds) : Kp P w K mg base 6 (ad 17) (fds 17) ["kind", "values"] F_product_of := by
  have b_isinstance := T.b_isinstance
  have b_tuple := T.b_tuple
  obtain ⟨t_WORDS, c_WORDS⟩ := T.c_WORDS
  exact Kp.of (k := 4) T.d_product_of.fn sc_product_of fun cdv A outer s H O hr => by
    unfold f_product_of
    exact (db_cons (ds_expr (de_q (dq_call O (kp_require_kind T) (hr.mono (by decide)) (by rfl) T.d_require_kind.m T.d_require_kind.fn.kp T.d_require_kind.b (dar_e (de_var (pv 0)) dar_nil))))
      (db_cons (ds_if (dt_w (dw_or (dt_not (dt_tru (de_isi (de_var (pv 1)) (by rfl) b_isinstance (pe_bltn (v := .ty "tuple") (by rfl) b_tuple (by decide +kernel) rfl)))) (dw_or1 (dt_cmp (od_eq O) (de_var (pv 1)) (de_tup da_nil))))) (db_one ds_never) db_nil)
      (db_cons (ds_expr (de_q (dq_call O (kp_require_values T) (hr.mono (by decide)) (by rfl) T.d_require_values.m T.d_require_values.fn.kp T.d_require_values.b (dar_e (de_var (pv 0)) (dar_e (de_var (pv 1)) dar_nil)))))
      (db_cons (ds_if (dt_cmp (od_eq O) (de_var (pv 0)) (de_const (v := .str "words") (pe_glob (by rfl) c_WORDS ⟨_, rfl⟩) fun _ => .str _)) (db_one (ds_ret (dq_e (de_bmS PySem.F.slot_str_join PySem.F.type_str_join md_join joinD_str de_str (da_cons (de_var (pv 1)) da_nil))))) db_nil)
      (db_cons (ds_set (i := 2) O rfl (Or.inl rfl) (dq_e (de_ix (de_var (pv 1)) de_int)))
      (db_cons (ds_for O (di_e (de_sl (de_var (pv 1)) (do_some de_int) do_none)) (dg_name (i := 3) O rfl (Or.inl rfl)) (db_one (ds_set (i := 2) O rfl (Or.inl rfl) (dq_call O (kp_multiplied T) (hr.mono (by decide)) (by rfl) T.d_multiplied.m T.d_multiplied.fn.kp T.d_multiplied.b (dar_e (de_var (pv 0)) (dar_e (de_var (pv 2)) (dar_e (de_var (pv 3)) dar_nil)))))))
      (db_one (ds_ret (dq_e (de_var (pv 2)))))))))))
theorem sc_undone : FnScope ["kind", "value"] ["kind", "value"] (defScope s_undone) := ⟨rfl, rfl, rfl, by decide +kernel, rfl, by decide +kernel, by decide +kernel⟩
theorem kp_undone (T : Txt K mg ad fds) : Kp P w K mg base 6 (ad 18) (fds 18) ["kind", "value"] F_undone := by
  obtain ⟨t_WORDS, c_WORDS⟩ := T.c_WORDS
  exact Kp.of (k := 4) T.d_undone.fn sc_undone fun cdv A outer s H O hr => by
    unfold f_undone
    exact (db_cons (ds_expr (de_q (dq_call O (kp_require_kind T) (hr.mono (by decide)) (by rfl) T.d_require_kind.m T.d_require_kind.fn.kp T.d_require_kind.b (dar_e (de_var (pv 0)) dar_nil))))
      (db_cons (ds_expr (de_q (dq_call O (kp_require_values T) (hr.mono (by decide)) (by rfl) T.d_require_values.m T.d_require_values.fn.kp T.d_require_values.b (dar_e (de_var (pv 0)) (dar_e (de_lst (da_cons (de_var (pv 1)) da_nil)) dar_nil)))))
      (db_cons (ds_if (dt_cmp (od_eq O) (de_var (pv 0)) (de_const (v := .str "words") (pe_glob (by rfl) c_WORDS ⟨_, rfl⟩) fun _ => .str _)) (db_one ds_never) db_nil)
      (db_one (ds_ret (dq_call O (kp_taken_back T) (hr.mono (by decide)) (by rfl) T.d_taken_back.m T.d_taken_back.fn.kp T.d_taken_back.b (dar_e (de_var (pv 0)) (dar_e (de_var (pv 1)) dar_nil))))))))
theorem sc__law_dice : FnScope ["script", "spot", "cell", "left"] ["script", "spot"] (defScope s__law_dice) := ⟨rfl, rfl, rfl, by decide +kernel, rfl, by decide +kernel, by decide +kernel⟩
theorem kp__law_dice (T : Txt K mg ad fds) : Kp P w K mg base 2 (ad 19) (fds 19) ["script", "spot"] F__law_dice := by
  have b_abs := T.b_abs
  have b_int := T.b_int
  have b_len := T.b_len
  have b_max := T.b_max
  exact Kp.of (k := 0) T.d__law_dice.fn sc__law_dice fun cdv A outer s H O hr => by
    unfold f__law_dice
    exact (db_cons (ds_set (i := 2) O rfl (Or.inl rfl) (dq_e (de_if (dt_cmp od_lt (de_var (pv 1)) (de_callB cd_len (by rfl) b_len (by decide +kernel) (da_cons (de_var (pv 0)) da_nil))) (de_callT cd_int (by rfl) b_int (by decide +kernel) (da_cons (de_ix (de_var (pv 0)) (de_var (pv 1))) da_nil)) (de_bin od_add (de_bin od_mul de_int (de_var (pv 1))) de_int))))
      (db_cons (ds_set (i := 3) O rfl (Or.inl rfl) (dq_e (de_bin od_mod (de_callB (cd_max2 O) (by rfl) b_max (by decide +kernel) (da_cons de_int (da_cons (de_bin od_sub (de_callB cd_abs (by rfl) b_abs (by decide +kernel) (da_cons (de_var (pv 2)) da_nil)) (de_bin od_pow de_int de_int)) da_nil))) (de_bin od_mul (de_bin od_pow de_int de_int) (de_bin od_pow de_int de_int)))))
      (db_one (ds_ret (dq_lst (da_cons (de_var (pv 3)) (da_cons (de_bin od_add (de_bin od_add (de_bin od_add (de_bin od_mul (de_bin od_mod (de_callB cd_abs (by rfl) b_abs (by decide +kernel) (da_cons (de_var (pv 2)) da_nil)) de_int) de_int) (de_bin od_mul de_int (de_var (pv 1)))) (de_bin od_mul de_int (de_callT cd_int (by rfl) b_int (by decide +kernel) (da_cons (de_cmp od_lt (de_var (pv 2)) de_int) da_nil)))) de_int) (da_cons de_int da_nil))))))))
theorem sc__law_roll : FnScope ["dice", "total", "found", "one", "two"] ["dice", "total"] (defScope s__law_roll) := ⟨rfl, rfl, rfl, by decide +kernel, rfl, by decide +kernel, by decide +kernel⟩
theorem kp__law_roll (T : Txt K mg ad fds) : Kp P w K mg base 2 (ad 20) (fds 20) ["dice", "total"] F__law_roll := by
  have b_int := T.b_int
  exact Kp.of (k := 0) T.d__law_roll.fn sc__law_roll fun cdv A outer s H O hr => by
    unfold f__law_roll
    exact (db_cons (ds_if (dt_cmp od_gt (de_ixO (pv 0) de_int) de_int) (db_cons (ds_set (i := 2) O rfl (Or.inl rfl) (dq_e (de_bin od_mod (de_callT cd_int (by rfl) b_int (by decide +kernel) (da_cons (de_ixO (pv 0) de_int) da_nil)) (de_var (pv 1)))))
      (db_cons (ds_setO (i := 0) (pv 0) (de_bin od_fdiv (de_ixO (pv 0) de_int) (de_var (pv 1))) de_int)
      (db_one (ds_ret (dq_e (de_var (pv 2))))))) db_nil)
      (db_cons (ds_setO (i := 0) (pv 0) (de_bin od_add (de_ixO (pv 0) de_int) de_int) de_int)
      (db_cons (ds_set (i := 3) O rfl (Or.inl rfl) (dq_e (de_bin od_mod (de_callT cd_int (by rfl) b_int (by decide +kernel) (da_cons (de_bin od_add (de_ixO (pv 0) de_int) (de_bin od_mul de_int (de_ixO (pv 0) de_int))) da_nil)) de_int)))
      (db_cons (ds_set (i := 4) O rfl (Or.inl rfl) (dq_e (de_bin od_add (de_bin od_mul (de_bin od_mod (de_callT cd_int (by rfl) b_int (by decide +kernel) (da_cons (de_bin od_add (de_bin od_mul (de_var (pv 3)) (de_var (pv 3))) (de_bin od_mul de_int (de_ixO (pv 0) de_int))) da_nil)) de_int) de_int) (de_var (pv 3)))))
      (db_one (ds_ret (dq_e (de_bin od_mod (de_callT cd_int (by rfl) b_int (by decide +kernel) (da_cons (de_bin od_fdiv (de_var (pv 4)) de_int) da_nil)) (de_var (pv 1))))))))))
theorem sc__law_pick : FnScope ["dice", "items"] ["dice", "items"] (defScope s__law_pick) := ⟨rfl, rfl, rfl, by decide +kernel, rfl, by decide +kernel, by decide +kernel⟩
theorem kp__law_pick (T : Txt K mg ad fds) : Kp P w K mg base 3 (ad 21) (fds 21) ["dice", "items"] F__law_pick := by
  have b_len := T.b_len
  exact Kp.of (k := 1) T.d__law_pick.fn sc__law_pick fun cdv A outer s H O hr => by
    unfold f__law_pick
    exact (db_one (ds_ret (dq_e (de_ix (de_var (pv 1)) (de_q (dq_call O (kp__law_roll T) (hr.mono (by decide)) (by rfl) T.d__law_roll.m T.d__law_roll.fn.kp T.d__law_roll.b (dar_b (pv 0) (dar_e (de_callB cd_len (by rfl) b_len (by decide +kernel) (da_cons (de_var (pv 1)) da_nil)) dar_nil))))))))
theorem sc__law_mixed : FnScope ["dice", "items", "left", "found", "turn"] ["dice", "items"] (defScope s__law_mixed) := ⟨rfl, rfl, rfl, by decide +kernel, rfl, by decide +kernel, by decide +kernel⟩
theorem kp__law_mixed (T : Txt K mg ad fds) : Kp P w K mg base 3 (ad 22) (fds 22) ["dice", "items"] F__law_mixed := by
  have b_len := T.b_len
  have b_list := T.b_list
  have b_range := T.b_range
  exact Kp.of (k := 1) T.d__law_mixed.fn sc__law_mixed fun cdv A outer s H O hr => by
    unfold f__law_mixed
    exact (db_cons (ds_par (i := 2) (j := 3) O rfl rfl (by decide) rfl rfl (dq_list (de_var (pv 1)) (by rfl) b_list) (dq_lst da_nil))
      (db_cons (ds_for O (di_range1 (by rfl) b_range (da_cons (de_callB cd_len (by rfl) b_len (by decide +kernel) (da_cons (de_var (pv 1)) da_nil)) da_nil)) (dg_name (i := 4) O rfl (Or.inl rfl)) (db_one (ds_app (pv 3) (de_popAt (pv 2) (de_q (dq_call O (kp__law_roll T) (hr.mono (by decide)) (by rfl) T.d__law_roll.m T.d__law_roll.fn.kp T.d__law_roll.b (dar_b (pv 0) (dar_e (de_lenO (pv 2) (by rfl) b_len) dar_nil))))))))
      (db_one (ds_retO (pv 3)))))
theorem sc__law_word_drawn : FnScope ["dice", "most", "letters", "turn"] ["dice", "most", "letters"] (defScope s__law_word_drawn) := ⟨rfl, rfl, rfl, by decide +kernel, rfl, by decide +kernel, by decide +kernel⟩
theorem kp__law_word_drawn (T : Txt K mg ad fds) : Kp P w K mg base 4 (ad 23) (fds 23) ["dice", "most", "letters"] F__law_word_drawn := by
  have b_range := T.b_range
  exact Kp.of (k := 2) T.d__law_word_drawn.fn sc__law_word_drawn fun cdv A outer s H O hr => by
    unfold f__law_word_drawn
    exact (db_one (ds_ret (dq_e (de_bmS PySem.F.slot_str_join PySem.F.type_str_join md_join joinD_str de_str (da_cons (de_q (dq_lc (own := [(("turn" : Str), 3)]) O (di_range1 (by rfl) b_range (da_cons (de_q (dq_call O (kp__law_roll T) (hr.mono (by decide)) (by rfl) T.d__law_roll.m T.d__law_roll.fn.kp T.d__law_roll.b (dar_b (pv 0) (dar_e (de_bin od_add (de_var (pv 1)) de_int) dar_nil)))) da_nil)) (blkOk_by (N := ["dice", "most", "letters", "turn"]) (sc := defScope s__law_word_drawn) (by decide +kernel)) (fun s1 H1 C1 cl1 fp1 => (dg_name (i := 3) (O.blk s1 H1 C1 cl1 fp1) rfl (Or.inl rfl))) (fun s1 H1 C1 cl1 fp1 => dts_nil) (fun s1 H1 C1 cl1 fp1 => (de_q (dq_call (O.blk s1 H1 C1 cl1 fp1) (kp__law_pick T) (hr.mono (by decide)) (by rfl) T.d__law_pick.m T.d__law_pick.fn.kp T.d__law_pick.b (dar_b (pv 0) (dar_e (de_var (pv 2)) dar_nil))))) (by decide))) da_nil)))))
theorem sc__law_gcd : FnScope ["one", "other", "left", "right"] ["one", "other"] (defScope s__law_gcd) := ⟨rfl, rfl, rfl, by decide +kernel, rfl, by decide +kernel, by decide +kernel⟩
theorem kp__law_gcd (T : Txt K mg ad fds) : Kp P w K mg base 2 (ad 24) (fds 24) ["one", "other"] F__law_gcd := by
  have b_int := T.b_int
  exact Kp.of (k := 0) T.d__law_gcd.fn sc__law_gcd fun cdv A outer s H O hr => by
    unfold f__law_gcd
    exact (db_cons (ds_par (i := 2) (j := 3) O rfl rfl (by decide) rfl rfl (dq_e (de_var (pv 0))) (dq_e (de_var (pv 1))))
      (db_cons (ds_w O (dt_cmp od_gt (de_var (pv 3)) de_int) (db_one (ds_par (i := 2) (j := 3) O rfl rfl (by decide) rfl rfl (dq_e (de_var (pv 3))) (dq_e (de_bin od_mod (de_callT cd_int (by rfl) b_int (by decide +kernel) (da_cons (de_var (pv 2)) da_nil)) (de_var (pv 3)))))))
      (db_one (ds_ret (dq_e (de_var (pv 2)))))))
theorem sc__law_lowest : FnScope ["top", "bottom", "shared"] ["top", "bottom"] (defScope s__law_lowest) := ⟨rfl, rfl, rfl, by decide +kernel, rfl, by decide +kernel, by decide +kernel⟩
theorem kp__law_lowest (T : Txt K mg ad fds) : Kp P w K mg base 3 (ad 25) (fds 25) ["top", "bottom"] F__law_lowest := by
  exact Kp.of (k := 1) T.d__law_lowest.fn sc__law_lowest fun cdv A outer s H O hr => by
    unfold f__law_lowest
    exact (db_cons (ds_set (i := 2) O rfl (Or.inl rfl) (dq_call O (kp__law_gcd T) (hr.mono (by decide)) (by rfl) T.d__law_gcd.m T.d__law_gcd.fn.kp T.d__law_gcd.b (dar_e (de_var (pv 0)) (dar_e (de_var (pv 1)) dar_nil))))
      (db_one (ds_ret (dq_e (de_tup (da_cons (de_bin od_fdiv (de_var (pv 0)) (de_var (pv 2))) (da_cons (de_bin od_fdiv (de_var (pv 1)) (de_var (pv 2))) da_nil)))))))
theorem sc__law_value_drawn : FnScope ["dice", "kind", "size", "most"] ["dice", "kind", "size", "most"] (defScope s__law_value_drawn) := ⟨rfl, rfl, rfl, by decide +kernel, rfl, by decide +kernel, by decide +kernel⟩
theorem kp__law_value_drawn (T : Txt K mg ad fds) : Kp P w K mg base 5 (ad 26) (fds 26) ["dice", "kind", "size", "most"] F__law_value_drawn := by
  have b_list := T.b_list
  have b_range := T.b_range
  have b_tuple := T.b_tuple
  exact Kp.of (k := 3) T.d__law_value_drawn.fn sc__law_value_drawn fun cdv A outer s H O hr => by
    unfold f__law_value_drawn
    exact (db_cons (ds_if (dt_cmp (od_eq O) (de_var (pv 1)) de_str) (db_one (ds_ret (dq_call O (kp__law_word_drawn T) (hr.mono (by decide)) (by rfl) T.d__law_word_drawn.m T.d__law_word_drawn.fn.kp T.d__law_word_drawn.b (dar_b (pv 0) (dar_e de_int (dar_e de_str dar_nil)))))) db_nil)
      (db_cons (ds_if (dt_cmp (od_eq O) (de_var (pv 1)) de_str) (db_one (ds_ret (dq_e (de_bin od_sub (de_q (dq_call O (kp__law_roll T) (hr.mono (by decide)) (by rfl) T.d__law_roll.m T.d__law_roll.fn.kp T.d__law_roll.b (dar_b (pv 0) (dar_e (de_bin od_add (de_bin od_mul de_int (de_var (pv 3))) de_int) dar_nil)))) (de_var (pv 3)))))) db_nil)
      (db_cons (ds_if (dt_cmp (od_eq O) (de_var (pv 1)) de_str) (db_one (ds_ret (dq_call O (kp__law_lowest T) (hr.mono (by decide)) (by rfl) T.d__law_lowest.m T.d__law_lowest.fn.kp T.d__law_lowest.b (dar_e (de_bin od_add de_int (de_q (dq_call O (kp__law_roll T) (hr.mono (by decide)) (by rfl) T.d__law_roll.m T.d__law_roll.fn.kp T.d__law_roll.b (dar_b (pv 0) (dar_e (de_var (pv 3)) dar_nil))))) (dar_e (de_bin od_add de_int (de_q (dq_call O (kp__law_roll T) (hr.mono (by decide)) (by rfl) T.d__law_roll.m T.d__law_roll.fn.kp T.d__law_roll.b (dar_b (pv 0) (dar_e (de_var (pv 3)) dar_nil))))) dar_nil))))) db_nil)
      (db_one (ds_ret (dq_e (de_tupOf (de_q (dq_call O (kp__law_mixed T) (hr.mono (by decide)) (by rfl) T.d__law_mixed.m T.d__law_mixed.fn.kp T.d__law_mixed.b (dar_b (pv 0) (dar_e (de_q (dq_listRg (drg_1 (de_var (pv 2)) (by rfl) b_range) O (by rfl) b_list)) dar_nil)))) (by rfl) b_tuple)))))))
theorem sc__law_unit : FnScope ["kind", "size"] ["kind", "size"] (defScope s__law_unit) := ⟨rfl, rfl, rfl, by decide +kernel, rfl, by decide +kernel, by decide +kernel⟩
theorem kp__law_unit (T : Txt K mg ad fds) : Kp P w K mg base 2 (ad 27) (fds 27) ["kind", "size"] F__law_unit := by
  have b_range := T.b_range
  have b_tuple := T.b_tuple
  exact Kp.of (k := 0) T.d__law_unit.fn sc__law_unit fun cdv A outer s H O hr => by
    unfold f__law_unit
    exact (db_one (ds_ret (dq_e (de_get2 O (de_dict (dps_cons de_str de_str (dps_cons de_str de_int (dps_cons de_str (de_tup (da_cons de_int (da_cons de_int da_nil))) dps_nil))) (by decide) (by decide) (by decide) (by decide)) (de_var (pv 0)) (de_tupRg (drg_1 (de_var (pv 1)) (by rfl) b_range) O (by rfl) b_tuple)))))
theorem sc__law_times : FnScope ["kind", "one", "other", "place"] ["kind", "one", "other"] (defScope s__law_times) := ⟨rfl, rfl, rfl, by decide +kernel, rfl, by decide +kernel, by decide +kernel⟩
theorem kp__law_times (T : Txt K mg ad fds) : Kp P w K mg base 4 (ad 28) (fds 28) ["kind", "one", "other"] F__law_times := by
  have b_tuple := T.b_tuple
  exact Kp.of (k := 2) T.d__law_times.fn sc__law_times fun cdv A outer s H O hr => by
    unfold f__law_times
    exact (db_cons (ds_if (dt_cmp (od_in O) (de_var (pv 0)) (de_tup (da_cons de_str (da_cons de_str da_nil)))) (db_one (ds_ret (dq_e (de_bin od_add (de_var (pv 1)) (de_var (pv 2)))))) db_nil)
      (db_cons (ds_if (dt_cmp (od_eq O) (de_var (pv 0)) de_str) (db_one (ds_ret (dq_call O (kp__law_lowest T) (hr.mono (by decide)) (by rfl) T.d__law_lowest.m T.d__law_lowest.fn.kp T.d__law_lowest.b (dar_e (de_bin od_mul (de_ix (de_var (pv 1)) de_int) (de_ix (de_var (pv 2)) de_int)) (dar_e (de_bin od_mul (de_ix (de_var (pv 1)) de_int) (de_ix (de_var (pv 2)) de_int)) dar_nil))))) db_nil)
      (db_one (ds_ret (dq_e (de_tupOf (de_q (dq_lc (own := [(("place" : Str), 3)]) O (di_e (de_var (pv 1))) (blkOk_by (N := ["kind", "one", "other", "place"]) (sc := defScope s__law_times) (by decide +kernel)) (fun s1 H1 C1 cl1 fp1 => (dg_name (i := 3) (O.blk s1 H1 C1 cl1 fp1) rfl (Or.inl rfl))) (fun s1 H1 C1 cl1 fp1 => dts_nil) (fun s1 H1 C1 cl1 fp1 => (de_ix (de_var (pv 2)) (de_var (pv 3)))) (by decide))) (by rfl) b_tuple))))))
theorem sc__law_back : FnScope ["kind", "value", "found", "place"] ["kind", "value"] (defScope s__law_back) := ⟨rfl, rfl, rfl, by decide +kernel, rfl, by decide +kernel, by decide +kernel⟩
theorem kp__law_back (T : Txt K mg ad fds) : Kp P w K mg base 2 (ad 29) (fds 29) ["kind", "value"] F__law_back := by
  have b_len := T.b_len
  have b_range := T.b_range
  have b_tuple := T.b_tuple
  exact Kp.of (k := 0) T.d__law_back.fn sc__law_back fun cdv A outer s H O hr => by
    unfold f__law_back
    exact (db_cons (ds_if (dt_cmp (od_eq O) (de_var (pv 0)) de_str) (db_one (ds_ret (dq_e (de_bin od_sub de_int (de_var (pv 1)))))) db_nil)
      (db_cons (ds_if (dt_cmp (od_eq O) (de_var (pv 0)) de_str) (db_one (ds_ret (dq_e (de_tup (da_cons (de_ix (de_var (pv 1)) de_int) (da_cons (de_ix (de_var (pv 1)) de_int) da_nil)))))) db_nil)
      (db_cons (ds_set (i := 2) O rfl (Or.inl rfl) (dq_rep (de_lst (da_cons de_int da_nil)) (de_callB cd_len (by rfl) b_len (by decide +kernel) (da_cons (de_var (pv 1)) da_nil))))
      (db_cons (ds_for O (di_range1 (by rfl) b_range (da_cons (de_callB cd_len (by rfl) b_len (by decide +kernel) (da_cons (de_var (pv 1)) da_nil)) da_nil)) (dg_name (i := 3) O rfl (Or.inl rfl)) (db_one (ds_setO (i := 2) (pv 2) (de_var (pv 3)) (de_ix (de_var (pv 1)) (de_var (pv 3))))))
      (db_fz 2 (db_one (ds_ret (dq_e (de_tupOf (de_var (pv 2)) (by rfl) b_tuple)))))))))
theorem sc__law_product : FnScope ["kind", "values", "size", "found", "value"] ["kind", "values", "size"] (defScope s__law_product) := ⟨rfl, rfl, rfl, by decide +kernel, rfl, by decide +kernel, by decide +kernel⟩
theorem kp__law_product (T : Txt K mg ad fds) : Kp P w K mg base 5 (ad 30) (fds 30) ["kind", "values", "size"] F__law_product := by
  exact Kp.of (k := 3) T.d__law_product.fn sc__law_product fun cdv A outer s H O hr => by
    unfold f__law_product
    exact (db_cons (ds_set (i := 3) O rfl (Or.inl rfl) (dq_call O (kp__law_unit T) (hr.mono (by decide)) (by rfl) T.d__law_unit.m T.d__law_unit.fn.kp T.d__law_unit.b (dar_e (de_var (pv 0)) (dar_e (de_var (pv 2)) dar_nil))))
      (db_cons (ds_for O (di_e (de_var (pv 1))) (dg_name (i := 4) O rfl (Or.inl rfl)) (db_one (ds_set (i := 3) O rfl (Or.inl rfl) (dq_call O (kp__law_times T) (hr.mono (by decide)) (by rfl) T.d__law_times.m T.d__law_times.fn.kp T.d__law_times.b (dar_e (de_var (pv 0)) (dar_e (de_var (pv 3)) (dar_e (de_var (pv 4)) dar_nil)))))))
      (db_one (ds_ret (dq_e (de_var (pv 3)))))))
theorem sc__law_is_value : FnScope ["kind", "value", "letters", "sign", "one"] ["kind", "value"] (defScope s__law_is_value) := ⟨rfl, rfl, rfl, by decide +kernel, rfl, by decide +kernel, by decide +kernel⟩
theorem kp__law_is_value (T : Txt K mg ad fds) : Kp P w K mg base 3 (ad 31) (fds 31) ["kind", "value"] F__law_is_value := by
  have b_bool := T.b_bool
  have b_int := T.b_int
  have b_isinstance := T.b_isinstance
  have b_len := T.b_len
  have b_list := T.b_list
  have b_min := T.b_min
  have b_range := T.b_range
  have b_sorted := T.b_sorted
  have b_str := T.b_str
  have b_tuple := T.b_tuple
  exact Kp.of (k := 1) T.d__law_is_value.fn sc__law_is_value fun cdv A outer s H O hr => by
    unfold f__law_is_value
    exact (db_cons (ds_if (dt_cmp (od_eq O) (de_var (pv 0)) de_str) (db_cons (ds_set (i := 2) O rfl (Or.inr rfl) (dq_e de_str))
      (db_one (ds_ret (dq_e (de_and (de_isi (de_var (pv 1)) (by rfl) b_isinstance (pe_bltn (v := .ty "str") (by rfl) b_str (by decide +kernel) rfl)) (de_one (de_cmp (od_eq O) (de_q (dq_lc (own := [(("sign" : Str), 3)]) O (di_e (de_var (pv 1))) (blkOk_by (N := ["kind", "value", "letters", "sign", "one"]) (sc := defScope s__law_is_value) (by decide +kernel)) (fun s1 H1 C1 cl1 fp1 => (dg_name (i := 3) (O.blk s1 H1 C1 cl1 fp1) rfl (Or.inl rfl))) (fun s1 H1 C1 cl1 fp1 => (dts_one (dt_cmp (od_notin (O.blk s1 H1 C1 cl1 fp1)) (de_var (pv 3)) (de_var (pv 2))))) (fun s1 H1 C1 cl1 fp1 => de_int) (by decide))) (de_lst da_nil)))))))) db_nil)
      (db_cons (ds_if (dt_cmp (od_eq O) (de_var (pv 0)) de_str) (db_one (ds_ret (dq_e (de_and (de_isi (de_var (pv 1)) (by rfl) b_isinstance (pe_bltn (v := .ty "int") (by rfl) b_int (by decide +kernel) rfl)) (de_one (de_not (de_isi (de_var (pv 1)) (by rfl) b_isinstance (pe_bltn (v := .ty "bool") (by rfl) b_bool (by decide +kernel) rfl)))))))) db_nil)
      (db_cons (ds_if (dt_w (dw_or (dt_not (dt_tru (de_isi (de_var (pv 1)) (by rfl) b_isinstance (pe_bltn (v := .ty "tuple") (by rfl) b_tuple (by decide +kernel) rfl)))) (dw_or1 (dt_cmp (od_ne O) (de_q (dq_lc (own := [(("one" : Str), 4)]) O (di_e (de_var (pv 1))) (blkOk_by (N := ["kind", "value", "letters", "sign", "one"]) (sc := defScope s__law_is_value) (by decide +kernel)) (fun s1 H1 C1 cl1 fp1 => (dg_name (i := 4) (O.blk s1 H1 C1 cl1 fp1) rfl (Or.inl rfl))) (fun s1 H1 C1 cl1 fp1 => (dts_one (dt_w (dw_or (dt_not (dt_tru (de_isi (de_var (pv 4)) (by rfl) b_isinstance (pe_bltn (v := .ty "int") (by rfl) b_int (by decide +kernel) rfl)))) (dw_or1 (dt_tru (de_isi (de_var (pv 4)) (by rfl) b_isinstance (pe_bltn (v := .ty "bool") (by rfl) b_bool (by decide +kernel) rfl)))))))) (fun s1 H1 C1 cl1 fp1 => de_int) (by decide))) (de_lst da_nil))))) (db_one (ds_ret (dq_e de_bl))) db_nil)
      (db_cons (ds_if (dt_cmp (od_eq O) (de_var (pv 0)) de_str) (db_one (ds_ret (dq_e (de_and (de_cmp (od_eq O) (de_callB cd_len (by rfl) b_len (by decide +kernel) (da_cons (de_var (pv 1)) da_nil)) de_int) (de_and (de_cmp od_gt (de_callB (cd_min1 O) (by rfl) b_min (by decide +kernel) (da_cons (de_var (pv 1)) da_nil)) de_int) (de_one (de_cmp (od_eq O) (de_q (dq_call O (kp__law_gcd T) (hr.mono (by decide)) (by rfl) T.d__law_gcd.m T.d__law_gcd.fn.kp T.d__law_gcd.b (dar_e (de_ix (de_var (pv 1)) de_int) (dar_e (de_ix (de_var (pv 1)) de_int) dar_nil)))) de_int))))))) db_nil)
      (db_one (ds_ret (dq_e (de_and (de_chain od_lt od_lt de_int (de_callB cd_len (by rfl) b_len (by decide +kernel) (da_cons (de_var (pv 1)) da_nil)) de_int) (de_one (de_cmp (od_eq O) (de_q (dq_srt (de_var (pv 1)) (by rfl) b_sorted)) (de_q (dq_listRg (drg_1 (de_callB cd_len (by rfl) b_len (by decide +kernel) (da_cons (de_var (pv 1)) da_nil)) (by rfl) b_range) O (by rfl) b_list))))))))))))
theorem sc__law_odd : FnScope ["dice", "found"] ["dice"] (defScope s__law_odd) := ⟨rfl, rfl, rfl, by decide +kernel, rfl, by decide +kernel, by decide +kernel⟩
theorem kp__law_odd (T : Txt K mg ad fds) : Kp P w K mg base 4 (ad 32) (fds 32) ["dice"] F__law_odd := by
  have b_len := T.b_len
  exact Kp.of (k := 2) T.d__law_odd.fn sc__law_odd fun cdv A outer s H O hr => by
    unfold f__law_odd
    exact (db_cons (ds_set (i := 1) O rfl (Or.inl rfl) (dq_e (de_lst (da_cons de_non (da_cons de_bl (da_cons de_str (da_cons de_str (da_cons de_str (da_cons de_str (da_cons de_str (da_cons de_str (da_cons de_int (da_cons (de_neg de_int) (da_cons (de_bin od_mul (de_bin od_pow de_int de_int) (de_bin od_pow de_int de_int)) (da_cons (de_tup (da_cons de_int (da_cons de_int da_nil))) (da_cons (de_tup (da_cons de_int (da_cons de_int da_nil))) (da_cons (de_tup (da_cons de_int (da_cons de_int da_nil))) da_nil)))))))))))))))))
      (db_cons (ds_set (i := 1) O rfl (Or.inl rfl) (dq_e (de_bin od_add (de_var (pv 1)) (de_lst (da_cons (de_tup (da_cons de_int (da_cons de_int da_nil))) (da_cons (de_tup (da_cons de_int (da_cons de_int da_nil))) da_nil))))))
      (db_cons (ds_set (i := 1) O rfl (Or.inl rfl) (dq_e (de_bin od_add (de_var (pv 1)) (de_lst (da_cons (de_tup (da_cons de_int (da_cons de_int da_nil))) (da_cons (de_tup (da_cons (de_neg de_int) (da_cons de_int da_nil))) (da_cons (de_tup (da_cons de_int da_nil)) (da_cons (de_tup (da_cons de_int da_nil)) (da_cons (de_tup (da_cons de_int (da_cons de_int (da_cons de_int da_nil)))) (da_cons (de_tup (da_cons de_int (da_cons de_int (da_cons de_int da_nil)))) (da_cons (de_tup (da_cons de_int (da_cons de_int da_nil))) (da_cons (de_tup (da_cons de_bl (da_cons de_int da_nil))) (da_cons (de_tup (da_cons de_int (da_cons de_bl da_nil))) (da_cons (de_tup da_nil) (da_cons (de_lst da_nil) (da_cons de_dict0 da_nil))))))))))))))))
      (db_cons (ds_set (i := 1) O rfl (Or.inl rfl) (dq_e (de_bin od_add (de_var (pv 1)) (de_lst (da_cons (de_tup (da_cons de_int (da_cons de_int (da_cons de_int (da_cons de_int (da_cons de_int (da_cons de_int da_nil))))))) (da_cons (de_tup (da_cons de_int (da_cons de_int (da_cons de_int (da_cons de_int (da_cons de_int da_nil)))))) (da_cons (de_lst (da_cons de_int (da_cons de_int da_nil))) (da_cons (de_tup (da_cons de_str da_nil)) (da_cons (de_tup (da_cons de_str (da_cons de_str da_nil))) (da_cons (de_tup (da_cons de_int (da_cons de_int (da_cons de_int da_nil)))) (da_cons (de_tup (da_cons de_int (da_cons de_non da_nil))) (da_cons (de_tup (da_cons de_str (da_cons de_str da_nil))) da_nil))))))))))))
      (db_cons (ds_set (i := 1) O rfl (Or.inl rfl) (dq_e (de_bin od_add (de_var (pv 1)) (de_lst (da_cons (de_tup (da_cons (de_bin od_add (de_bin od_mul (de_bin od_pow de_int de_int) (de_bin od_pow de_int de_int)) de_int) (da_cons (de_bin od_mul (de_bin od_pow de_int de_int) (de_bin od_pow de_int de_int)) da_nil))) (da_cons (de_bin od_mul de_str de_int) da_nil))))))
      (db_one (ds_ret (dq_e (de_bin od_add (de_sl (de_q (dq_call O (kp__law_mixed T) (hr.mono (by decide)) (by rfl) T.d__law_mixed.m T.d__law_mixed.fn.kp T.d__law_mixed.b (dar_b (pv 0) (dar_e (de_var (pv 1)) dar_nil)))) do_none (do_some de_int)) (de_lst (da_cons (de_ix (de_var (pv 1)) (de_q (dq_call O (kp__law_roll T) (hr.mono (by decide)) (by rfl) T.d__law_roll.m T.d__law_roll.fn.kp T.d__law_roll.b (dar_b (pv 0) (dar_e (de_callB cd_len (by rfl) b_len (by decide +kernel) (da_cons (de_var (pv 1)) da_nil)) dar_nil))))) da_nil)))))))))))
theorem sc__law_right : FnScope ["dice", "kind", "size", "most", "values", "turn", "value", "due", "at", "unit", "back"] ["dice", "kind"] (defScope s__law_right) := ⟨rfl, rfl, rfl, by decide +kernel, rfl, by decide +kernel, by decide +kernel⟩
theorem kp__law_right (T : Txt K mg ad fds) : Kp P w K mg base 7 (ad 33) (fds 33) ["dice", "kind"] F__law_right := by
  have b_len := T.b_len
  have b_range := T.b_range
  have b_repr := T.b_repr
  have b_tuple := T.b_tuple
  exact Kp.of (k := 5) T.d__law_right.fn sc__law_right fun cdv A outer s H O hr => by
    unfold f__law_right
    exact (db_cons (ds_asg (de_tup (da_cons (de_bin od_add de_int (de_q (dq_call O (kp__law_roll T) (hr.mono (by decide)) (by rfl) T.d__law_roll.m T.d__law_roll.fn.kp T.d__law_roll.b (dar_b (pv 0) (dar_e de_int dar_nil))))) (da_cons (de_q (dq_call O (kp__law_pick T) (hr.mono (by decide)) (by rfl) T.d__law_pick.m T.d__law_pick.fn.kp T.d__law_pick.b (dar_b (pv 0) (dar_e (de_lst (da_cons de_int (da_cons (de_bin od_pow de_int de_int) (da_cons (de_bin od_mul (de_bin od_pow de_int de_int) (de_bin od_pow de_int de_int)) da_nil)))) dar_nil)))) da_nil))) (dg_tup O (dgs_cons (dg_name (i := 2) O rfl (Or.inr rfl)) (dgs_cons (dg_name (i := 3) O rfl (Or.inr rfl)) dgs_nil))))
      (db_cons (ds_set (i := 4) O rfl (Or.inl rfl) (dq_e (de_tupOf (de_q (dq_lc (own := [(("turn" : Str), 5)]) O (di_range1 (by rfl) b_range (da_cons (de_bin od_add de_int (de_q (dq_call O (kp__law_roll T) (hr.mono (by decide)) (by rfl) T.d__law_roll.m T.d__law_roll.fn.kp T.d__law_roll.b (dar_b (pv 0) (dar_e de_int dar_nil))))) da_nil)) (blkOk_by (N := ["dice", "kind", "size", "most", "values", "turn", "value", "due", "at", "unit", "back"]) (sc := defScope s__law_right) (by decide +kernel)) (fun s1 H1 C1 cl1 fp1 => (dg_name (i := 5) (O.blk s1 H1 C1 cl1 fp1) rfl (Or.inl rfl))) (fun s1 H1 C1 cl1 fp1 => dts_nil) (fun s1 H1 C1 cl1 fp1 => (de_q (dq_call (O.blk s1 H1 C1 cl1 fp1) (kp__law_value_drawn T) (hr.mono (by decide)) (by rfl) T.d__law_value_drawn.m T.d__law_value_drawn.fn.kp T.d__law_value_drawn.b (dar_b (pv 0) (dar_e (de_var (pv 1)) (dar_e (de_var (pv 2)) (dar_e (de_var (pv 3)) dar_nil))))))) (by decide))) (by rfl) b_tuple)))
      (db_cons (ds_if (dt_cmp (od_ne O) (de_q (dq_lc (own := [(("value" : Str), 6)]) O (di_e (de_var (pv 4))) (blkOk_by (N := ["dice", "kind", "size", "most", "values", "turn", "value", "due", "at", "unit", "back"]) (sc := defScope s__law_right) (by decide +kernel)) (fun s1 H1 C1 cl1 fp1 => (dg_name (i := 6) (O.blk s1 H1 C1 cl1 fp1) rfl (Or.inl rfl))) (fun s1 H1 C1 cl1 fp1 => (dts_one (dt_cmp od_isNot (de_q (dq_call (O.blk s1 H1 C1 cl1 fp1) (kp_is_value T) (hr.mono (by decide)) (by rfl) T.d_is_value.m T.d_is_value.fn.kp T.d_is_value.b (dar_e (de_var (pv 1)) (dar_e (de_var (pv 6)) dar_nil)))) de_bl))) (fun s1 H1 C1 cl1 fp1 => de_int) (by decide))) (de_lst da_nil)) (db_one (ds_ret (dq_e de_bl))) db_nil)
      (db_cons (ds_if (dt_cmp (od_ne O) (de_q (dq_lc (own := [(("value" : Str), 6)]) O (di_e (de_q (dq_call O (kp__law_odd T) (hr.mono (by decide)) (by rfl) T.d__law_odd.m T.d__law_odd.fn.kp T.d__law_odd.b (dar_b (pv 0) dar_nil)))) (blkOk_by (N := ["dice", "kind", "size", "most", "values", "turn", "value", "due", "at", "unit", "back"]) (sc := defScope s__law_right) (by decide +kernel)) (fun s1 H1 C1 cl1 fp1 => (dg_name (i := 6) (O.blk s1 H1 C1 cl1 fp1) rfl (Or.inl rfl))) (fun s1 H1 C1 cl1 fp1 => (dts_one (dt_cmp (od_ne (O.blk s1 H1 C1 cl1 fp1)) (de_callB (cd_repr (O.blk s1 H1 C1 cl1 fp1)) (by rfl) b_repr (by decide +kernel) (da_cons (de_q (dq_call (O.blk s1 H1 C1 cl1 fp1) (kp_is_value T) (hr.mono (by decide)) (by rfl) T.d_is_value.m T.d_is_value.fn.kp T.d_is_value.b (dar_e (de_var (pv 1)) (dar_e (de_var (pv 6)) dar_nil)))) da_nil)) (de_callB (cd_repr (O.blk s1 H1 C1 cl1 fp1)) (by rfl) b_repr (by decide +kernel) (da_cons (de_q (dq_call (O.blk s1 H1 C1 cl1 fp1) (kp__law_is_value T) (hr.mono (by decide)) (by rfl) T.d__law_is_value.m T.d__law_is_value.fn.kp T.d__law_is_value.b (dar_e (de_var (pv 1)) (dar_e (de_var (pv 6)) dar_nil)))) da_nil))))) (fun s1 H1 C1 cl1 fp1 => (de_var (pv 6))) (by decide))) (de_lst da_nil)) (db_one (ds_ret (dq_e de_bl))) db_nil)
      (db_cons (ds_par (i := 7) (j := 8) O rfl rfl (by decide) rfl rfl (dq_call O (kp__law_product T) (hr.mono (by decide)) (by rfl) T.d__law_product.m T.d__law_product.fn.kp T.d__law_product.b (dar_e (de_var (pv 1)) (dar_e (de_var (pv 4)) (dar_e (de_var (pv 2)) dar_nil)))) (dq_e (de_bin od_add de_int (de_q (dq_call O (kp__law_roll T) (hr.mono (by decide)) (by rfl) T.d__law_roll.m T.d__law_roll.fn.kp T.d__law_roll.b (dar_b (pv 0) (dar_e (de_callB cd_len (by rfl) b_len (by decide +kernel) (da_cons (de_var (pv 4)) da_nil)) dar_nil)))))))
      (db_cons (ds_if (dt_w (dw_or (dt_cmp (od_ne O) (de_callB (cd_repr O) (by rfl) b_repr (by decide +kernel) (da_cons (de_q (dq_call O (kp_product_of T) (hr.mono (by decide)) (by rfl) T.d_product_of.m T.d_product_of.fn.kp T.d_product_of.b (dar_e (de_var (pv 1)) (dar_e (de_var (pv 4)) dar_nil)))) da_nil)) (de_callB (cd_repr O) (by rfl) b_repr (by decide +kernel) (da_cons (de_var (pv 7)) da_nil))) (dw_or1 (dt_cmp (od_ne O) (de_callB (cd_repr O) (by rfl) b_repr (by decide +kernel) (da_cons (de_q (dq_call O (kp_unit_like T) (hr.mono (by decide)) (by rfl) T.d_unit_like.m T.d_unit_like.fn.kp T.d_unit_like.b (dar_e (de_var (pv 1)) (dar_e (de_ix (de_var (pv 4)) de_int) dar_nil)))) da_nil)) (de_callB (cd_repr O) (by rfl) b_repr (by decide +kernel) (da_cons (de_q (dq_call O (kp__law_unit T) (hr.mono (by decide)) (by rfl) T.d__law_unit.m T.d__law_unit.fn.kp T.d__law_unit.b (dar_e (de_var (pv 1)) (dar_e (de_var (pv 2)) dar_nil)))) da_nil)))))) (db_one (ds_ret (dq_e de_bl))) db_nil)
      (db_cons (ds_if (dt_w (dw_and (dt_cmp od_lt (de_var (pv 8)) (de_callB cd_len (by rfl) b_len (by decide +kernel) (da_cons (de_var (pv 4)) da_nil))) (dw_and1 (dt_cmp (od_ne O) (de_q (dq_call O (kp_product_of T) (hr.mono (by decide)) (by rfl) T.d_product_of.m T.d_product_of.fn.kp T.d_product_of.b (dar_e (de_var (pv 1)) (dar_e (de_tup (da_cons (de_q (dq_call O (kp_product_of T) (hr.mono (by decide)) (by rfl) T.d_product_of.m T.d_product_of.fn.kp T.d_product_of.b (dar_e (de_var (pv 1)) (dar_e (de_sl (de_var (pv 4)) do_none (do_some (de_var (pv 8)))) dar_nil)))) (da_cons (de_q (dq_call O (kp_product_of T) (hr.mono (by decide)) (by rfl) T.d_product_of.m T.d_product_of.fn.kp T.d_product_of.b (dar_e (de_var (pv 1)) (dar_e (de_sl (de_var (pv 4)) (do_some (de_var (pv 8))) do_none) dar_nil)))) da_nil))) dar_nil)))) (de_var (pv 7)))))) (db_one (ds_ret (dq_e de_bl))) db_nil)
      (db_cons (ds_set (i := 9) O rfl (Or.inl rfl) (dq_call O (kp_unit_like T) (hr.mono (by decide)) (by rfl) T.d_unit_like.m T.d_unit_like.fn.kp T.d_unit_like.b (dar_e (de_var (pv 1)) (dar_e (de_var (pv 7)) dar_nil))))
      (db_cons (ds_if (dt_w (dw_or (dt_cmp (od_ne O) (de_q (dq_call O (kp_product_of T) (hr.mono (by decide)) (by rfl) T.d_product_of.m T.d_product_of.fn.kp T.d_product_of.b (dar_e (de_var (pv 1)) (dar_e (de_tup (da_cons (de_var (pv 9)) (da_cons (de_var (pv 7)) da_nil))) dar_nil)))) (de_var (pv 7))) (dw_or1 (dt_cmp (od_ne O) (de_q (dq_call O (kp_product_of T) (hr.mono (by decide)) (by rfl) T.d_product_of.m T.d_product_of.fn.kp T.d_product_of.b (dar_e (de_var (pv 1)) (dar_e (de_tup (da_cons (de_var (pv 7)) (da_cons (de_var (pv 9)) da_nil))) dar_nil)))) (de_var (pv 7)))))) (db_one (ds_ret (dq_e de_bl))) db_nil)
      (db_cons (ds_if (dt_cmp (od_eq O) (de_var (pv 1)) de_str) (db_one (ds_ret (dq_e de_bl))) db_nil)
      (db_cons (ds_set (i := 10) O rfl (Or.inl rfl) (dq_call O (kp_undone T) (hr.mono (by decide)) (by rfl) T.d_undone.m T.d_undone.fn.kp T.d_undone.b (dar_e (de_var (pv 1)) (dar_e (de_var (pv 7)) dar_nil))))
      (db_cons (ds_if (dt_w (dw_or (dt_cmp (od_ne O) (de_callB (cd_repr O) (by rfl) b_repr (by decide +kernel) (da_cons (de_var (pv 10)) da_nil)) (de_callB (cd_repr O) (by rfl) b_repr (by decide +kernel) (da_cons (de_q (dq_call O (kp__law_back T) (hr.mono (by decide)) (by rfl) T.d__law_back.m T.d__law_back.fn.kp T.d__law_back.b (dar_e (de_var (pv 1)) (dar_e (de_var (pv 7)) dar_nil)))) da_nil))) (dw_or1 (dt_cmp (od_ne O) (de_q (dq_call O (kp_undone T) (hr.mono (by decide)) (by rfl) T.d_undone.m T.d_undone.fn.kp T.d_undone.b (dar_e (de_var (pv 1)) (dar_e (de_var (pv 10)) dar_nil)))) (de_var (pv 7)))))) (db_one (ds_ret (dq_e de_bl))) db_nil)
      (db_one (ds_ret (dq_e (de_and (de_cmp (od_eq O) (de_q (dq_call O (kp_product_of T) (hr.mono (by decide)) (by rfl) T.d_product_of.m T.d_product_of.fn.kp T.d_product_of.b (dar_e (de_var (pv 1)) (dar_e (de_tup (da_cons (de_var (pv 7)) (da_cons (de_var (pv 10)) da_nil))) dar_nil)))) (de_var (pv 9))) (de_one (de_cmp (od_eq O) (de_q (dq_call O (kp_product_of T) (hr.mono (by decide)) (by rfl) T.d_product_of.m T.d_product_of.fn.kp T.d_product_of.b (dar_e (de_var (pv 1)) (dar_e (de_tup (da_cons (de_var (pv 10)) (da_cons (de_var (pv 7)) da_nil))) dar_nil)))) (de_var (pv 9))))))))))))))))))))
theorem sc_law : FnScope ["script", "spot", "dice", "kind", "told"] ["script"] (defScope s_law) := ⟨rfl, rfl, rfl, by decide +kernel, rfl, by decide +kernel, by decide +kernel⟩
theorem kp_law (T : Txt K mg ad fds) : Kp P w K mg base 8 (ad 34) (fds 34) ["script"] F_law := by
  have b_len := T.b_len
  have b_max := T.b_max
  have b_min := T.b_min
  have b_range := T.b_range
  have c_KINDS := T.c_KINDS
  exact Kp.of (k := 6) T.d_law.fn sc_law fun cdv A outer s H O hr => by
    unfold f_law
    exact (db_cons (ds_for O (di_range1 (by rfl) b_range (da_cons (de_callB (cd_max2 O) (by rfl) b_max (by decide +kernel) (da_cons de_int (da_cons (de_callB (cd_min2 O) (by rfl) b_min (by decide +kernel) (da_cons de_int (da_cons (de_callB cd_len (by rfl) b_len (by decide +kernel) (da_cons (de_var (pv 0)) da_nil)) da_nil))) da_nil))) da_nil)) (dg_name (i := 1) O rfl (Or.inl rfl)) (db_cons (ds_set (i := 2) O rfl (Or.inl rfl) (dq_call O (kp__law_dice T) (hr.mono (by decide)) (by rfl) T.d__law_dice.m T.d__law_dice.fn.kp T.d__law_dice.b (dar_e (de_var (pv 0)) (dar_e (de_var (pv 1)) dar_nil))))
      (db_one (ds_for O (di_e (de_tup (da_cons de_str (da_cons de_str (da_cons de_str (da_cons de_str da_nil)))))) (dg_name (i := 3) O rfl (Or.inl rfl)) (db_one (ds_if (dt_w (dw_or (dt_not (dt_tru (de_q (dq_callO O (kp__law_right T) (hr.mono (by decide)) (by rfl) T.d__law_right.m T.d__law_right.fn.kp T.d__law_right.b (pv 2) (dar_e (de_var (pv 3)) dar_nil))))) (dw_or1 (dt_not (dt_tru (de_q (dq_callO O (kp__law_right T) (hr.mono (by decide)) (by rfl) T.d__law_right.m T.d__law_right.fn.kp T.d__law_right.b (pv 2) (dar_e (de_var (pv 3)) dar_nil)))))))) (db_one (ds_ret (dq_e de_bl))) db_nil))))))
      (db_cons (ds_set (i := 4) O rfl (Or.inl rfl) (dq_e (de_lst (da_cons (de_q (dq_call O (kp_product_of T) (hr.mono (by decide)) (by rfl) T.d_product_of.m T.d_product_of.fn.kp T.d_product_of.b (dar_e de_str (dar_e (de_tup (da_cons (de_tup (da_cons de_int (da_cons de_int da_nil))) (da_cons (de_tup (da_cons de_int (da_cons de_int da_nil))) da_nil))) dar_nil)))) (da_cons (de_q (dq_call O (kp_product_of T) (hr.mono (by decide)) (by rfl) T.d_product_of.m T.d_product_of.fn.kp T.d_product_of.b (dar_e de_str (dar_e (de_tup (da_cons (de_tup (da_cons de_int (da_cons de_int (da_cons de_int da_nil)))) (da_cons (de_tup (da_cons de_int (da_cons de_int (da_cons de_int da_nil)))) da_nil))) dar_nil)))) da_nil)))))
      (db_cons (ds_set (i := 4) O rfl (Or.inl rfl) (dq_e (de_bin od_add (de_var (pv 4)) (de_lst (da_cons (de_q (dq_call O (kp_undone T) (hr.mono (by decide)) (by rfl) T.d_undone.m T.d_undone.fn.kp T.d_undone.b (dar_e de_str (dar_e (de_tup (da_cons de_int (da_cons de_int (da_cons de_int da_nil)))) dar_nil)))) (da_cons (de_q (dq_call O (kp_product_of T) (hr.mono (by decide)) (by rfl) T.d_product_of.m T.d_product_of.fn.kp T.d_product_of.b (dar_e de_str (dar_e (de_tup (da_cons de_str (da_cons de_str (da_cons de_str da_nil)))) dar_nil)))) (da_cons (de_q (dq_call O (kp_product_of T) (hr.mono (by decide)) (by rfl) T.d_product_of.m T.d_product_of.fn.kp T.d_product_of.b (dar_e de_str (dar_e (de_tup (da_cons de_int (da_cons (de_neg de_int) da_nil))) dar_nil)))) da_nil)))))))
      (db_cons (ds_if (dt_cmp (od_ne O) (de_var (pv 4)) (de_lst (da_cons (de_tup (da_cons de_int (da_cons de_int da_nil))) (da_cons (de_tup (da_cons de_int (da_cons de_int (da_cons de_int da_nil)))) (da_cons (de_tup (da_cons de_int (da_cons de_int (da_cons de_int da_nil)))) (da_cons de_str (da_cons (de_neg de_int) da_nil))))))) (db_one (ds_ret (dq_e de_bl))) db_nil)
      (db_one (ds_ret (dq_e (de_and (de_cmp (od_eq O) (de_q (dq_call O (kp_unit_like T) (hr.mono (by decide)) (by rfl) T.d_unit_like.m T.d_unit_like.fn.kp T.d_unit_like.b (dar_e de_str (dar_e (de_tup (da_cons de_int da_nil)) dar_nil)))) (de_tup (da_cons de_int da_nil))) (de_one (de_cmp (od_eq O) (c_KINDS.de (by rfl)) (de_tup (da_cons de_str (da_cons de_str (da_cons de_str (da_cons de_str da_nil)))))))))))))))
end
end KK

namespace KK
open PySem PySem.Spec PyProof.Rows L2 DL
section
variable {P : Program} {w : World} {K : Fg} {mg : Str → Option Value}
theorem all_mk {h : Heap} {fa f0 f1 f2 f3 f4 f5 f6 f7 f8 f9 f10 f11 f12 f13 f14 f15 f16 f17 f18 f19 f20 f21 f22 f23 f24 f25 f26 f27 f28 f29 f30 f31 f32 f33 f34 : Addr} {od0 od1 od2 od3 od4 od5 od6 od7 od8 od9 od10 od11 od12 od13 od14 od15 od16 od17 od18 od19 od20 od21 od22 od23 od24 od25 od26 od27 od28 od29 od30 od31 od32 od33 od34 an0 an1 an2 an3 an4 an5 an6 an7 an8 an9 an10 an11 an12 an13 an14 an15 an16 an17 an18 an19 an20 an21 an22 an23 an24 an25 an26 an27 an28 an29 an30 an31 an32 an33 an34 : Option Addr} {sl0 sl1 sl2 sl3 sl4 sl5 sl6 sl7 sl8 sl9 sl10 sl11 sl12 sl13 sl14 sl15 sl16 sl17 sl18 sl19 sl20 sl21 sl22 sl23 sl24 sl25 sl26 sl27 sl28 sl29 sl30 sl31 sl32 sl33 sl34 : Array (Option Value)} {oc0 oc1 oc2 oc3 oc4 oc5 oc6 oc7 oc8 oc9 oc10 oc11 oc12 oc13 oc14 oc15 oc16 oc17 oc18 oc19 oc20 oc21 oc22 oc23 oc24 oc25 oc26 oc27 oc28 oc29 oc30 oc31 oc32 oc33 oc34 kV0 kV1 kV2 kV3 kV4 kV5 kV6 kV7 kV8 kV9 kV10 kV11 kV12 kV13 kV14 kV15 kV16 kV17 kV18 kV19 kV20 kV21 kV22 kV23 kV24 kV25 kV26 kV27 kV28 kV29 kV30 kV31 kV32 kV33 kV34 dc0 dc1 dc2 dc3 dc4 dc5 dc6 dc7 dc8 dc9 dc10 dc11 dc12 dc13 dc14 dc15 dc16 dc17 dc18 dc19 dc20 dc21 dc22 dc23 dc24 dc25 dc26 dc27 dc28 dc29 dc30 dc31 dc32 dc33 dc34 pm0 pm1 pm2 pm3 pm4 pm5 pm6 pm7 pm8 pm9 pm10 pm11 pm12 pm13 pm14 pm15 pm16 pm17 pm18 pm19 pm20 pm21 pm22 pm23 pm24 pm25 pm26 pm27 pm28 pm29 pm30 pm31 pm32 pm33 pm34 cd0 cd1 cd2 cd3 cd4 cd5 cd6 cd7 cd8 cd9 cd10 cd11 cd12 cd13 cd14 cd15 cd16 cd17 cd18 cd19 cd20 cd21 cd22 cd23 cd24 cd25 cd26 cd27 cd28 cd29 cd30 cd31 cd32 cd33 cd34 ct0 ct1 ct2 ct3 ct4 ct5 ct6 ct7 ct8 ct9 ct10 ct11 ct12 ct13 ct14 ct15 ct16 ct17 ct18 ct19 ct20 ct21 ct22 ct23 ct24 ct25 ct26 ct27 ct28 ct29 ct30 ct31 ct32 ct33 ct34 : Value} {g_KINDS : Addr} {n_KINDS : Nat} {sl_KINDS : Array (Option Value)} {t_KINDS_0 t_KINDS_1 t_KINDS_2 t_KINDS_3 : Tok} {t_LETTERS : Tok} {t_MOST_LONG : Tok} {t_MOST_MOVED : Tok} {t_MOVES : Tok} {t_PAIR_SIZE : Tok} {t_SHARES : Tok} {t_SUMS : Tok} {t_WORDS : Tok} (X : K.In h) (G : h.Ns mainGlobals mg) (hfa : mg "law" = some (.ref fa))
    (a0 : PySem.W.nsIn K mainGlobals "is_whole" = some (some (.ref f0))) (l0 : K.lookup f0 = some ⟨oc0, od0, .func (PySem.W.fnOf "is_whole" "is_whole" (defArgs s_is_whole) (defBody s_is_whole) (defScope s_is_whole) .none kV0 dc0 pm0 an0 cd0 ct0), sl0⟩) (c0 : PySem.W.codeIn K cd0 "is_whole" = true) (k0 : PySem.W.keepIn K (.ref f0) = true)
    (a1 : PySem.W.nsIn K mainGlobals "is_pair" = some (some (.ref f1))) (l1 : K.lookup f1 = some ⟨oc1, od1, .func (PySem.W.fnOf "is_pair" "is_pair" (defArgs s_is_pair) (defBody s_is_pair) (defScope s_is_pair) .none kV1 dc1 pm1 an1 cd1 ct1), sl1⟩) (c1 : PySem.W.codeIn K cd1 "is_pair" = true) (k1 : PySem.W.keepIn K (.ref f1) = true)
    (a2 : PySem.W.nsIn K mainGlobals "is_letters" = some (some (.ref f2))) (l2 : K.lookup f2 = some ⟨oc2, od2, .func (PySem.W.fnOf "is_letters" "is_letters" (defArgs s_is_letters) (defBody s_is_letters) (defScope s_is_letters) .none kV2 dc2 pm2 an2 cd2 ct2), sl2⟩) (c2 : PySem.W.codeIn K cd2 "is_letters" = true) (k2 : PySem.W.keepIn K (.ref f2) = true)
    (a3 : PySem.W.nsIn K mainGlobals "is_word" = some (some (.ref f3))) (l3 : K.lookup f3 = some ⟨oc3, od3, .func (PySem.W.fnOf "is_word" "is_word" (defArgs s_is_word) (defBody s_is_word) (defScope s_is_word) .none kV3 dc3 pm3 an3 cd3 ct3), sl3⟩) (c3 : PySem.W.codeIn K cd3 "is_word" = true) (k3 : PySem.W.keepIn K (.ref f3) = true)
    (a4 : PySem.W.nsIn K mainGlobals "divisor_of" = some (some (.ref f4))) (l4 : K.lookup f4 = some ⟨oc4, od4, .func (PySem.W.fnOf "divisor_of" "divisor_of" (defArgs s_divisor_of) (defBody s_divisor_of) (defScope s_divisor_of) .none kV4 dc4 pm4 an4 cd4 ct4), sl4⟩) (c4 : PySem.W.codeIn K cd4 "divisor_of" = true) (k4 : PySem.W.keepIn K (.ref f4) = true)
    (a5 : PySem.W.nsIn K mainGlobals "is_share" = some (some (.ref f5))) (l5 : K.lookup f5 = some ⟨oc5, od5, .func (PySem.W.fnOf "is_share" "is_share" (defArgs s_is_share) (defBody s_is_share) (defScope s_is_share) .none kV5 dc5 pm5 an5 cd5 ct5), sl5⟩) (c5 : PySem.W.codeIn K cd5 "is_share" = true) (k5 : PySem.W.keepIn K (.ref f5) = true)
    (a6 : PySem.W.nsIn K mainGlobals "is_move" = some (some (.ref f6))) (l6 : K.lookup f6 = some ⟨oc6, od6, .func (PySem.W.fnOf "is_move" "is_move" (defArgs s_is_move) (defBody s_is_move) (defScope s_is_move) .none kV6 dc6 pm6 an6 cd6 ct6), sl6⟩) (c6 : PySem.W.codeIn K cd6 "is_move" = true) (k6 : PySem.W.keepIn K (.ref f6) = true)
    (a7 : PySem.W.nsIn K mainGlobals "is_value_in" = some (some (.ref f7))) (l7 : K.lookup f7 = some ⟨oc7, od7, .func (PySem.W.fnOf "is_value_in" "is_value_in" (defArgs s_is_value_in) (defBody s_is_value_in) (defScope s_is_value_in) .none kV7 dc7 pm7 an7 cd7 ct7), sl7⟩) (c7 : PySem.W.codeIn K cd7 "is_value_in" = true) (k7 : PySem.W.keepIn K (.ref f7) = true)
    (a8 : PySem.W.nsIn K mainGlobals "unit_of" = some (some (.ref f8))) (l8 : K.lookup f8 = some ⟨oc8, od8, .func (PySem.W.fnOf "unit_of" "unit_of" (defArgs s_unit_of) (defBody s_unit_of) (defScope s_unit_of) .none kV8 dc8 pm8 an8 cd8 ct8), sl8⟩) (c8 : PySem.W.codeIn K cd8 "unit_of" = true) (k8 : PySem.W.keepIn K (.ref f8) = true)
    (a9 : PySem.W.nsIn K mainGlobals "lowered" = some (some (.ref f9))) (l9 : K.lookup f9 = some ⟨oc9, od9, .func (PySem.W.fnOf "lowered" "lowered" (defArgs s_lowered) (defBody s_lowered) (defScope s_lowered) .none kV9 dc9 pm9 an9 cd9 ct9), sl9⟩) (c9 : PySem.W.codeIn K cd9 "lowered" = true) (k9 : PySem.W.keepIn K (.ref f9) = true)
    (a10 : PySem.W.nsIn K mainGlobals "multiplied" = some (some (.ref f10))) (l10 : K.lookup f10 = some ⟨oc10, od10, .func (PySem.W.fnOf "multiplied" "multiplied" (defArgs s_multiplied) (defBody s_multiplied) (defScope s_multiplied) .none kV10 dc10 pm10 an10 cd10 ct10), sl10⟩) (c10 : PySem.W.codeIn K cd10 "multiplied" = true) (k10 : PySem.W.keepIn K (.ref f10) = true)
    (a11 : PySem.W.nsIn K mainGlobals "taken_back" = some (some (.ref f11))) (l11 : K.lookup f11 = some ⟨oc11, od11, .func (PySem.W.fnOf "taken_back" "taken_back" (defArgs s_taken_back) (defBody s_taken_back) (defScope s_taken_back) .none kV11 dc11 pm11 an11 cd11 ct11), sl11⟩) (c11 : PySem.W.codeIn K cd11 "taken_back" = true) (k11 : PySem.W.keepIn K (.ref f11) = true)
    (a12 : PySem.W.nsIn K mainGlobals "are_of_size" = some (some (.ref f12))) (l12 : K.lookup f12 = some ⟨oc12, od12, .func (PySem.W.fnOf "are_of_size" "are_of_size" (defArgs s_are_of_size) (defBody s_are_of_size) (defScope s_are_of_size) .none kV12 dc12 pm12 an12 cd12 ct12), sl12⟩) (c12 : PySem.W.codeIn K cd12 "are_of_size" = true) (k12 : PySem.W.keepIn K (.ref f12) = true)
    (a13 : PySem.W.nsIn K mainGlobals "require_kind" = some (some (.ref f13))) (l13 : K.lookup f13 = some ⟨oc13, od13, .func (PySem.W.fnOf "require_kind" "require_kind" (defArgs s_require_kind) (defBody s_require_kind) (defScope s_require_kind) .none kV13 dc13 pm13 an13 cd13 ct13), sl13⟩) (c13 : PySem.W.codeIn K cd13 "require_kind" = true) (k13 : PySem.W.keepIn K (.ref f13) = true)
    (a14 : PySem.W.nsIn K mainGlobals "require_values" = some (some (.ref f14))) (l14 : K.lookup f14 = some ⟨oc14, od14, .func (PySem.W.fnOf "require_values" "require_values" (defArgs s_require_values) (defBody s_require_values) (defScope s_require_values) .none kV14 dc14 pm14 an14 cd14 ct14), sl14⟩) (c14 : PySem.W.codeIn K cd14 "require_values" = true) (k14 : PySem.W.keepIn K (.ref f14) = true)
    (a15 : PySem.W.nsIn K mainGlobals "is_value" = some (some (.ref f15))) (l15 : K.lookup f15 = some ⟨oc15, od15, .func (PySem.W.fnOf "is_value" "is_value" (defArgs s_is_value) (defBody s_is_value) (defScope s_is_value) .none kV15 dc15 pm15 an15 cd15 ct15), sl15⟩) (c15 : PySem.W.codeIn K cd15 "is_value" = true) (k15 : PySem.W.keepIn K (.ref f15) = true)
    (a16 : PySem.W.nsIn K mainGlobals "unit_like" = some (some (.ref f16))) (l16 : K.lookup f16 = some ⟨oc16, od16, .func (PySem.W.fnOf "unit_like" "unit_like" (defArgs s_unit_like) (defBody s_unit_like) (defScope s_unit_like) .none kV16 dc16 pm16 an16 cd16 ct16), sl16⟩) (c16 : PySem.W.codeIn K cd16 "unit_like" = true) (k16 : PySem.W.keepIn K (.ref f16) = true)
    (a17 : PySem.W.nsIn K mainGlobals "product_of" = some (some (.ref f17))) (l17 : K.lookup f17 = some ⟨oc17, od17, .func (PySem.W.fnOf "product_of" "product_of" (defArgs s_product_of) (defBody s_product_of) (defScope s_product_of) .none kV17 dc17 pm17 an17 cd17 ct17), sl17⟩) (c17 : PySem.W.codeIn K cd17 "product_of" = true) (k17 : PySem.W.keepIn K (.ref f17) = true)
    (a18 : PySem.W.nsIn K mainGlobals "undone" = some (some (.ref f18))) (l18 : K.lookup f18 = some ⟨oc18, od18, .func (PySem.W.fnOf "undone" "undone" (defArgs s_undone) (defBody s_undone) (defScope s_undone) .none kV18 dc18 pm18 an18 cd18 ct18), sl18⟩) (c18 : PySem.W.codeIn K cd18 "undone" = true) (k18 : PySem.W.keepIn K (.ref f18) = true)
    (a19 : PySem.W.nsIn K mainGlobals "_law_dice" = some (some (.ref f19))) (l19 : K.lookup f19 = some ⟨oc19, od19, .func (PySem.W.fnOf "_law_dice" "_law_dice" (defArgs s__law_dice) (defBody s__law_dice) (defScope s__law_dice) .none kV19 dc19 pm19 an19 cd19 ct19), sl19⟩) (c19 : PySem.W.codeIn K cd19 "_law_dice" = true) (k19 : PySem.W.keepIn K (.ref f19) = true)
    (a20 : PySem.W.nsIn K mainGlobals "_law_roll" = some (some (.ref f20))) (l20 : K.lookup f20 = some ⟨oc20, od20, .func (PySem.W.fnOf "_law_roll" "_law_roll" (defArgs s__law_roll) (defBody s__law_roll) (defScope s__law_roll) .none kV20 dc20 pm20 an20 cd20 ct20), sl20⟩) (c20 : PySem.W.codeIn K cd20 "_law_roll" = true) (k20 : PySem.W.keepIn K (.ref f20) = true)
    (a21 : PySem.W.nsIn K mainGlobals "_law_pick" = some (some (.ref f21))) (l21 : K.lookup f21 = some ⟨oc21, od21, .func (PySem.W.fnOf "_law_pick" "_law_pick" (defArgs s__law_pick) (defBody s__law_pick) (defScope s__law_pick) .none kV21 dc21 pm21 an21 cd21 ct21), sl21⟩) (c21 : PySem.W.codeIn K cd21 "_law_pick" = true) (k21 : PySem.W.keepIn K (.ref f21) = true)
    (a22 : PySem.W.nsIn K mainGlobals "_law_mixed" = some (some (.ref f22))) (l22 : K.lookup f22 = some ⟨oc22, od22, .func (PySem.W.fnOf "_law_mixed" "_law_mixed" (defArgs s__law_mixed) (defBody s__law_mixed) (defScope s__law_mixed) .none kV22 dc22 pm22 an22 cd22 ct22), sl22⟩) (c22 : PySem.W.codeIn K cd22 "_law_mixed" = true) (k22 : PySem.W.keepIn K (.ref f22) = true)
    (a23 : PySem.W.nsIn K mainGlobals "_law_word_drawn" = some (some (.ref f23))) (l23 : K.lookup f23 = some ⟨oc23, od23, .func (PySem.W.fnOf "_law_word_drawn" "_law_word_drawn" (defArgs s__law_word_drawn) (defBody s__law_word_drawn) (defScope s__law_word_drawn) .none kV23 dc23 pm23 an23 cd23 ct23), sl23⟩) (c23 : PySem.W.codeIn K cd23 "_law_word_drawn" = true) (k23 : PySem.W.keepIn K (.ref f23) = true)
    (a24 : PySem.W.nsIn K mainGlobals "_law_gcd" = some (some (.ref f24))) (l24 : K.lookup f24 = some ⟨oc24, od24, .func (PySem.W.fnOf "_law_gcd" "_law_gcd" (defArgs s__law_gcd) (defBody s__law_gcd) (defScope s__law_gcd) .none kV24 dc24 pm24 an24 cd24 ct24), sl24⟩) (c24 : PySem.W.codeIn K cd24 "_law_gcd" = true) (k24 : PySem.W.keepIn K (.ref f24) = true)
    (a25 : PySem.W.nsIn K mainGlobals "_law_lowest" = some (some (.ref f25))) (l25 : K.lookup f25 = some ⟨oc25, od25, .func (PySem.W.fnOf "_law_lowest" "_law_lowest" (defArgs s__law_lowest) (defBody s__law_lowest) (defScope s__law_lowest) .none kV25 dc25 pm25 an25 cd25 ct25), sl25⟩) (c25 : PySem.W.codeIn K cd25 "_law_lowest" = true) (k25 : PySem.W.keepIn K (.ref f25) = true)
    (a26 : PySem.W.nsIn K mainGlobals "_law_value_drawn" = some (some (.ref f26))) (l26 : K.lookup f26 = some ⟨oc26, od26, .func (PySem.W.fnOf "_law_value_drawn" "_law_value_drawn" (defArgs s__law_value_drawn) (defBody s__law_value_drawn) (defScope s__law_value_drawn) .none kV26 dc26 pm26 an26 cd26 ct26), sl26⟩) (c26 : PySem.W.codeIn K cd26 "_law_value_drawn" = true) (k26 : PySem.W.keepIn K (.ref f26) = true)
    (a27 : PySem.W.nsIn K mainGlobals "_law_unit" = some (some (.ref f27))) (l27 : K.lookup f27 = some ⟨oc27, od27, .func (PySem.W.fnOf "_law_unit" "_law_unit" (defArgs s__law_unit) (defBody s__law_unit) (defScope s__law_unit) .none kV27 dc27 pm27 an27 cd27 ct27), sl27⟩) (c27 : PySem.W.codeIn K cd27 "_law_unit" = true) (k27 : PySem.W.keepIn K (.ref f27) = true)
    (a28 : PySem.W.nsIn K mainGlobals "_law_times" = some (some (.ref f28))) (l28 : K.lookup f28 = some ⟨oc28, od28, .func (PySem.W.fnOf "_law_times" "_law_times" (defArgs s__law_times) (defBody s__law_times) (defScope s__law_times) .none kV28 dc28 pm28 an28 cd28 ct28), sl28⟩) (c28 : PySem.W.codeIn K cd28 "_law_times" = true) (k28 : PySem.W.keepIn K (.ref f28) = true)
    (a29 : PySem.W.nsIn K mainGlobals "_law_back" = some (some (.ref f29))) (l29 : K.lookup f29 = some ⟨oc29, od29, .func (PySem.W.fnOf "_law_back" "_law_back" (defArgs s__law_back) (defBody s__law_back) (defScope s__law_back) .none kV29 dc29 pm29 an29 cd29 ct29), sl29⟩) (c29 : PySem.W.codeIn K cd29 "_law_back" = true) (k29 : PySem.W.keepIn K (.ref f29) = true)
    (a30 : PySem.W.nsIn K mainGlobals "_law_product" = some (some (.ref f30))) (l30 : K.lookup f30 = some ⟨oc30, od30, .func (PySem.W.fnOf "_law_product" "_law_product" (defArgs s__law_product) (defBody s__law_product) (defScope s__law_product) .none kV30 dc30 pm30 an30 cd30 ct30), sl30⟩) (c30 : PySem.W.codeIn K cd30 "_law_product" = true) (k30 : PySem.W.keepIn K (.ref f30) = true)
    (a31 : PySem.W.nsIn K mainGlobals "_law_is_value" = some (some (.ref f31))) (l31 : K.lookup f31 = some ⟨oc31, od31, .func (PySem.W.fnOf "_law_is_value" "_law_is_value" (defArgs s__law_is_value) (defBody s__law_is_value) (defScope s__law_is_value) .none kV31 dc31 pm31 an31 cd31 ct31), sl31⟩) (c31 : PySem.W.codeIn K cd31 "_law_is_value" = true) (k31 : PySem.W.keepIn K (.ref f31) = true)
    (a32 : PySem.W.nsIn K mainGlobals "_law_odd" = some (some (.ref f32))) (l32 : K.lookup f32 = some ⟨oc32, od32, .func (PySem.W.fnOf "_law_odd" "_law_odd" (defArgs s__law_odd) (defBody s__law_odd) (defScope s__law_odd) .none kV32 dc32 pm32 an32 cd32 ct32), sl32⟩) (c32 : PySem.W.codeIn K cd32 "_law_odd" = true) (k32 : PySem.W.keepIn K (.ref f32) = true)
    (a33 : PySem.W.nsIn K mainGlobals "_law_right" = some (some (.ref f33))) (l33 : K.lookup f33 = some ⟨oc33, od33, .func (PySem.W.fnOf "_law_right" "_law_right" (defArgs s__law_right) (defBody s__law_right) (defScope s__law_right) .none kV33 dc33 pm33 an33 cd33 ct33), sl33⟩) (c33 : PySem.W.codeIn K cd33 "_law_right" = true) (k33 : PySem.W.keepIn K (.ref f33) = true)
    (a34 : PySem.W.nsIn K mainGlobals "law" = some (some (.ref f34))) (l34 : K.lookup f34 = some ⟨oc34, od34, .func (PySem.W.fnOf "law" "law" (defArgs s_law) (defBody s_law) (defScope s_law) .none kV34 dc34 pm34 an34 cd34 ct34), sl34⟩) (c34 : PySem.W.codeIn K cd34 "law" = true) (k34 : PySem.W.keepIn K (.ref f34) = true)
    (zz_abs : PySem.W.nsIn K mainGlobals "abs" = some none)
    (zz_all : PySem.W.nsIn K mainGlobals "all" = some none)
    (zz_bool : PySem.W.nsIn K mainGlobals "bool" = some none)
    (zz_int : PySem.W.nsIn K mainGlobals "int" = some none)
    (zz_isinstance : PySem.W.nsIn K mainGlobals "isinstance" = some none)
    (zz_len : PySem.W.nsIn K mainGlobals "len" = some none)
    (zz_list : PySem.W.nsIn K mainGlobals "list" = some none)
    (zz_max : PySem.W.nsIn K mainGlobals "max" = some none)
    (zz_min : PySem.W.nsIn K mainGlobals "min" = some none)
    (zz_range : PySem.W.nsIn K mainGlobals "range" = some none)
    (zz_repr : PySem.W.nsIn K mainGlobals "repr" = some none)
    (zz_sorted : PySem.W.nsIn K mainGlobals "sorted" = some none)
    (zz_str : PySem.W.nsIn K mainGlobals "str" = some none)
    (zz_tuple : PySem.W.nsIn K mainGlobals "tuple" = some none)
    (cn_KINDS : PySem.W.nsIn K mainGlobals "KINDS" = some (some (.ref g_KINDS))) (cl_KINDS : K.lookup g_KINDS = some ⟨.type "tuple", none, .seq #[.str "words" t_KINDS_0, .str "sums" t_KINDS_1, .str "shares" t_KINDS_2, .str "moves" t_KINDS_3] n_KINDS, sl_KINDS⟩)
    (cn_LETTERS : PySem.W.nsIn K mainGlobals "LETTERS" = some (some (.str "abcdefghijkl" t_LETTERS)))
    (cn_MOST_LONG : PySem.W.nsIn K mainGlobals "MOST_LONG" = some (some (.int 100000 t_MOST_LONG)))
    (cn_MOST_MOVED : PySem.W.nsIn K mainGlobals "MOST_MOVED" = some (some (.int 5 t_MOST_MOVED)))
    (cn_MOVES : PySem.W.nsIn K mainGlobals "MOVES" = some (some (.str "moves" t_MOVES)))
    (cn_PAIR_SIZE : PySem.W.nsIn K mainGlobals "PAIR_SIZE" = some (some (.int 2 t_PAIR_SIZE)))
    (cn_SHARES : PySem.W.nsIn K mainGlobals "SHARES" = some (some (.str "shares" t_SHARES)))
    (cn_SUMS : PySem.W.nsIn K mainGlobals "SUMS" = some (some (.str "sums" t_SUMS)))
    (cn_WORDS : PySem.W.nsIn K mainGlobals "WORDS" = some (some (.str "words" t_WORDS)))
    : ∃ fd : FuncData, (∀ (s : Shared) (u : Value), BindsTo s fd ⟨[u], []⟩ [("script", u)]) ∧ ∀ base : Heap, K.In base → base.Ns mainGlobals mg → Kp P w K mg base 8 fa fd ["script"] F_law := by
  have e := hfa.symm.trans (PySem.W.mg_of X G a34)
  cases e
  have F0 := fun_mk (st := s_is_whole) l0 c0 k0
  have B0 := F0.binds (ps := ["value"]) fun _ _ _ _ _ _ us hl => match us, hl with | [_], _ => rfl
  have F1 := fun_mk (st := s_is_pair) l1 c1 k1
  have B1 := F1.binds (ps := ["value"]) fun _ _ _ _ _ _ us hl => match us, hl with | [_], _ => rfl
  have F2 := fun_mk (st := s_is_letters) l2 c2 k2
  have B2 := F2.binds (ps := ["value"]) fun _ _ _ _ _ _ us hl => match us, hl with | [_], _ => rfl
  have F3 := fun_mk (st := s_is_word) l3 c3 k3
  have B3 := F3.binds (ps := ["value"]) fun _ _ _ _ _ _ us hl => match us, hl with | [_], _ => rfl
  have F4 := fun_mk (st := s_divisor_of) l4 c4 k4
  have B4 := F4.binds (ps := ["one", "other"]) fun _ _ _ _ _ _ us hl => match us, hl with | [_, _], _ => rfl
  have F5 := fun_mk (st := s_is_share) l5 c5 k5
  have B5 := F5.binds (ps := ["value"]) fun _ _ _ _ _ _ us hl => match us, hl with | [_], _ => rfl
  have F6 := fun_mk (st := s_is_move) l6 c6 k6
  have B6 := F6.binds (ps := ["value"]) fun _ _ _ _ _ _ us hl => match us, hl with | [_], _ => rfl
  have F7 := fun_mk (st := s_is_value_in) l7 c7 k7
  have B7 := F7.binds (ps := ["kind", "value"]) fun _ _ _ _ _ _ us hl => match us, hl with | [_, _], _ => rfl
  have F8 := fun_mk (st := s_unit_of) l8 c8 k8
  have B8 := F8.binds (ps := ["kind", "value"]) fun _ _ _ _ _ _ us hl => match us, hl with | [_, _], _ => rfl
  have F9 := fun_mk (st := s_lowered) l9 c9 k9
  have B9 := F9.binds (ps := ["top", "bottom"]) fun _ _ _ _ _ _ us hl => match us, hl with | [_, _], _ => rfl
  have F10 := fun_mk (st := s_multiplied) l10 c10 k10
  have B10 := F10.binds (ps := ["kind", "one", "other"]) fun _ _ _ _ _ _ us hl => match us, hl with | [_, _, _], _ => rfl
  have F11 := fun_mk (st := s_taken_back) l11 c11 k11
  have B11 := F11.binds (ps := ["kind", "value"]) fun _ _ _ _ _ _ us hl => match us, hl with | [_, _], _ => rfl
  have F12 := fun_mk (st := s_are_of_size) l12 c12 k12
  have B12 := F12.binds (ps := ["values"]) fun _ _ _ _ _ _ us hl => match us, hl with | [_], _ => rfl
  have F13 := fun_mk (st := s_require_kind) l13 c13 k13
  have B13 := F13.binds (ps := ["kind"]) fun _ _ _ _ _ _ us hl => match us, hl with | [_], _ => rfl
  have F14 := fun_mk (st := s_require_values) l14 c14 k14
  have B14 := F14.binds (ps := ["kind", "values"]) fun _ _ _ _ _ _ us hl => match us, hl with | [_, _], _ => rfl
  have F15 := fun_mk (st := s_is_value) l15 c15 k15
  have B15 := F15.binds (ps := ["kind", "value"]) fun _ _ _ _ _ _ us hl => match us, hl with | [_, _], _ => rfl
  have F16 := fun_mk (st := s_unit_like) l16 c16 k16
  have B16 := F16.binds (ps := ["kind", "value"]) fun _ _ _ _ _ _ us hl => match us, hl with | [_, _], _ => rfl
  have F17 := fun_mk (st := s_product_of) l17 c17 k17
  have B17 := F17.binds (ps := ["kind", "values"]) fun _ _ _ _ _ _ us hl => match us, hl with | [_, _], _ => rfl
  have F18 := fun_mk (st := s_undone) l18 c18 k18
  have B18 := F18.binds (ps := ["kind", "value"]) fun _ _ _ _ _ _ us hl => match us, hl with | [_, _], _ => rfl
  have F19 := fun_mk (st := s__law_dice) l19 c19 k19
  have B19 := F19.binds (ps := ["script", "spot"]) fun _ _ _ _ _ _ us hl => match us, hl with | [_, _], _ => rfl
  have F20 := fun_mk (st := s__law_roll) l20 c20 k20
  have B20 := F20.binds (ps := ["dice", "total"]) fun _ _ _ _ _ _ us hl => match us, hl with | [_, _], _ => rfl
  have F21 := fun_mk (st := s__law_pick) l21 c21 k21
  have B21 := F21.binds (ps := ["dice", "items"]) fun _ _ _ _ _ _ us hl => match us, hl with | [_, _], _ => rfl
  have F22 := fun_mk (st := s__law_mixed) l22 c22 k22
  have B22 := F22.binds (ps := ["dice", "items"]) fun _ _ _ _ _ _ us hl => match us, hl with | [_, _], _ => rfl
  have F23 := fun_mk (st := s__law_word_drawn) l23 c23 k23
  have B23 := F23.binds (ps := ["dice", "most", "letters"]) fun _ _ _ _ _ _ us hl => match us, hl with | [_, _, _], _ => rfl
  have F24 := fun_mk (st := s__law_gcd) l24 c24 k24
  have B24 := F24.binds (ps := ["one", "other"]) fun _ _ _ _ _ _ us hl => match us, hl with | [_, _], _ => rfl
  have F25 := fun_mk (st := s__law_lowest) l25 c25 k25
  have B25 := F25.binds (ps := ["top", "bottom"]) fun _ _ _ _ _ _ us hl => match us, hl with | [_, _], _ => rfl
  have F26 := fun_mk (st := s__law_value_drawn) l26 c26 k26
  have B26 := F26.binds (ps := ["dice", "kind", "size", "most"]) fun _ _ _ _ _ _ us hl => match us, hl with | [_, _, _, _], _ => rfl
  have F27 := fun_mk (st := s__law_unit) l27 c27 k27
  have B27 := F27.binds (ps := ["kind", "size"]) fun _ _ _ _ _ _ us hl => match us, hl with | [_, _], _ => rfl
  have F28 := fun_mk (st := s__law_times) l28 c28 k28
  have B28 := F28.binds (ps := ["kind", "one", "other"]) fun _ _ _ _ _ _ us hl => match us, hl with | [_, _, _], _ => rfl
  have F29 := fun_mk (st := s__law_back) l29 c29 k29
  have B29 := F29.binds (ps := ["kind", "value"]) fun _ _ _ _ _ _ us hl => match us, hl with | [_, _], _ => rfl
  have F30 := fun_mk (st := s__law_product) l30 c30 k30
  have B30 := F30.binds (ps := ["kind", "values", "size"]) fun _ _ _ _ _ _ us hl => match us, hl with | [_, _, _], _ => rfl
  have F31 := fun_mk (st := s__law_is_value) l31 c31 k31
  have B31 := F31.binds (ps := ["kind", "value"]) fun _ _ _ _ _ _ us hl => match us, hl with | [_, _], _ => rfl
  have F32 := fun_mk (st := s__law_odd) l32 c32 k32
  have B32 := F32.binds (ps := ["dice"]) fun _ _ _ _ _ _ us hl => match us, hl with | [_], _ => rfl
  have F33 := fun_mk (st := s__law_right) l33 c33 k33
  have B33 := F33.binds (ps := ["dice", "kind"]) fun _ _ _ _ _ _ us hl => match us, hl with | [_, _], _ => rfl
  have F34 := fun_mk (st := s_law) l34 c34 k34
  have B34 := F34.binds (ps := ["script"]) fun _ _ _ _ _ _ us hl => match us, hl with | [_], _ => rfl
  have T : Txt K mg (fun i => [f0, f1, f2, f3, f4, f5, f6, f7, f8, f9, f10, f11, f12, f13, f14, f15, f16, f17, f18, f19, f20, f21, f22, f23, f24, f25, f26, f27, f28, f29, f30, f31, f32, f33, fa].getD i 0) (fun i => [(PySem.W.fnOf "is_whole" "is_whole" (defArgs s_is_whole) (defBody s_is_whole) (defScope s_is_whole) .none kV0 dc0 pm0 an0 cd0 ct0), (PySem.W.fnOf "is_pair" "is_pair" (defArgs s_is_pair) (defBody s_is_pair) (defScope s_is_pair) .none kV1 dc1 pm1 an1 cd1 ct1), (PySem.W.fnOf "is_letters" "is_letters" (defArgs s_is_letters) (defBody s_is_letters) (defScope s_is_letters) .none kV2 dc2 pm2 an2 cd2 ct2), (PySem.W.fnOf "is_word" "is_word" (defArgs s_is_word) (defBody s_is_word) (defScope s_is_word) .none kV3 dc3 pm3 an3 cd3 ct3), (PySem.W.fnOf "divisor_of" "divisor_of" (defArgs s_divisor_of) (defBody s_divisor_of) (defScope s_divisor_of) .none kV4 dc4 pm4 an4 cd4 ct4), (PySem.W.fnOf "is_share" "is_share" (defArgs s_is_share) (defBody s_is_share) (defScope s_is_share) .none kV5 dc5 pm5 an5 cd5 ct5), (PySem.W.fnOf "is_move" "is_move" (defArgs s_is_move) (defBody s_is_move) (defScope s_is_move) .none kV6 dc6 pm6 an6 cd6 ct6), (PySem.W.fnOf "is_value_in" "is_value_in" (defArgs s_is_value_in) (defBody s_is_value_in) (defScope s_is_value_in) .none kV7 dc7 pm7 an7 cd7 ct7), (PySem.W.fnOf "unit_of" "unit_of" (defArgs s_unit_of) (defBody s_unit_of) (defScope s_unit_of) .none kV8 dc8 pm8 an8 cd8 ct8), (PySem.W.fnOf "lowered" "lowered" (defArgs s_lowered) (defBody s_lowered) (defScope s_lowered) .none kV9 dc9 pm9 an9 cd9 ct9), (PySem.W.fnOf "multiplied" "multiplied" (defArgs s_multiplied) (defBody s_multiplied) (defScope s_multiplied) .none kV10 dc10 pm10 an10 cd10 ct10), (PySem.W.fnOf "taken_back" "taken_back" (defArgs s_taken_back) (defBody s_taken_back) (defScope s_taken_back) .none kV11 dc11 pm11 an11 cd11 ct11), (PySem.W.fnOf "are_of_size" "are_of_size" (defArgs s_are_of_size) (defBody s_are_of_size) (defScope s_are_of_size) .none kV12 dc12 pm12 an12 cd12 ct12), (PySem.W.fnOf "require_kind" "require_kind" (defArgs s_require_kind) (defBody s_require_kind) (defScope s_require_kind) .none kV13 dc13 pm13 an13 cd13 ct13), (PySem.W.fnOf "require_values" "require_values" (defArgs s_require_values) (defBody s_require_values) (defScope s_require_values) .none kV14 dc14 pm14 an14 cd14 ct14), (PySem.W.fnOf "is_value" "is_value" (defArgs s_is_value) (defBody s_is_value) (defScope s_is_value) .none kV15 dc15 pm15 an15 cd15 ct15), (PySem.W.fnOf "unit_like" "unit_like" (defArgs s_unit_like) (defBody s_unit_like) (defScope s_unit_like) .none kV16 dc16 pm16 an16 cd16 ct16), (PySem.W.fnOf "product_of" "product_of" (defArgs s_product_of) (defBody s_product_of) (defScope s_product_of) .none kV17 dc17 pm17 an17 cd17 ct17), (PySem.W.fnOf "undone" "undone" (defArgs s_undone) (defBody s_undone) (defScope s_undone) .none kV18 dc18 pm18 an18 cd18 ct18), (PySem.W.fnOf "_law_dice" "_law_dice" (defArgs s__law_dice) (defBody s__law_dice) (defScope s__law_dice) .none kV19 dc19 pm19 an19 cd19 ct19), (PySem.W.fnOf "_law_roll" "_law_roll" (defArgs s__law_roll) (defBody s__law_roll) (defScope s__law_roll) .none kV20 dc20 pm20 an20 cd20 ct20), (PySem.W.fnOf "_law_pick" "_law_pick" (defArgs s__law_pick) (defBody s__law_pick) (defScope s__law_pick) .none kV21 dc21 pm21 an21 cd21 ct21), (PySem.W.fnOf "_law_mixed" "_law_mixed" (defArgs s__law_mixed) (defBody s__law_mixed) (defScope s__law_mixed) .none kV22 dc22 pm22 an22 cd22 ct22), (PySem.W.fnOf "_law_word_drawn" "_law_word_drawn" (defArgs s__law_word_drawn) (defBody s__law_word_drawn) (defScope s__law_word_drawn) .none kV23 dc23 pm23 an23 cd23 ct23), (PySem.W.fnOf "_law_gcd" "_law_gcd" (defArgs s__law_gcd) (defBody s__law_gcd) (defScope s__law_gcd) .none kV24 dc24 pm24 an24 cd24 ct24), (PySem.W.fnOf "_law_lowest" "_law_lowest" (defArgs s__law_lowest) (defBody s__law_lowest) (defScope s__law_lowest) .none kV25 dc25 pm25 an25 cd25 ct25), (PySem.W.fnOf "_law_value_drawn" "_law_value_drawn" (defArgs s__law_value_drawn) (defBody s__law_value_drawn) (defScope s__law_value_drawn) .none kV26 dc26 pm26 an26 cd26 ct26), (PySem.W.fnOf "_law_unit" "_law_unit" (defArgs s__law_unit) (defBody s__law_unit) (defScope s__law_unit) .none kV27 dc27 pm27 an27 cd27 ct27), (PySem.W.fnOf "_law_times" "_law_times" (defArgs s__law_times) (defBody s__law_times) (defScope s__law_times) .none kV28 dc28 pm28 an28 cd28 ct28), (PySem.W.fnOf "_law_back" "_law_back" (defArgs s__law_back) (defBody s__law_back) (defScope s__law_back) .none kV29 dc29 pm29 an29 cd29 ct29), (PySem.W.fnOf "_law_product" "_law_product" (defArgs s__law_product) (defBody s__law_product) (defScope s__law_product) .none kV30 dc30 pm30 an30 cd30 ct30), (PySem.W.fnOf "_law_is_value" "_law_is_value" (defArgs s__law_is_value) (defBody s__law_is_value) (defScope s__law_is_value) .none kV31 dc31 pm31 an31 cd31 ct31), (PySem.W.fnOf "_law_odd" "_law_odd" (defArgs s__law_odd) (defBody s__law_odd) (defScope s__law_odd) .none kV32 dc32 pm32 an32 cd32 ct32), (PySem.W.fnOf "_law_right" "_law_right" (defArgs s__law_right) (defBody s__law_right) (defScope s__law_right) .none kV33 dc33 pm33 an33 cd33 ct33), (PySem.W.fnOf "law" "law" (defArgs s_law) (defBody s_law) (defScope s_law) .none kV34 dc34 pm34 an34 cd34 ct34)].getD i (PySem.W.fnOf "is_whole" "is_whole" (defArgs s_is_whole) (defBody s_is_whole) (defScope s_is_whole) .none kV0 dc0 pm0 an0 cd0 ct0)) := {
    d_is_whole := ⟨F0, PySem.W.mg_of X G a0, B0⟩
    d_is_pair := ⟨F1, PySem.W.mg_of X G a1, B1⟩
    d_is_letters := ⟨F2, PySem.W.mg_of X G a2, B2⟩
    d_is_word := ⟨F3, PySem.W.mg_of X G a3, B3⟩
    d_divisor_of := ⟨F4, PySem.W.mg_of X G a4, B4⟩
    d_is_share := ⟨F5, PySem.W.mg_of X G a5, B5⟩
    d_is_move := ⟨F6, PySem.W.mg_of X G a6, B6⟩
    d_is_value_in := ⟨F7, PySem.W.mg_of X G a7, B7⟩
    d_unit_of := ⟨F8, PySem.W.mg_of X G a8, B8⟩
    d_lowered := ⟨F9, PySem.W.mg_of X G a9, B9⟩
    d_multiplied := ⟨F10, PySem.W.mg_of X G a10, B10⟩
    d_taken_back := ⟨F11, PySem.W.mg_of X G a11, B11⟩
    d_are_of_size := ⟨F12, PySem.W.mg_of X G a12, B12⟩
    d_require_kind := ⟨F13, PySem.W.mg_of X G a13, B13⟩
    d_require_values := ⟨F14, PySem.W.mg_of X G a14, B14⟩
    d_is_value := ⟨F15, PySem.W.mg_of X G a15, B15⟩
    d_unit_like := ⟨F16, PySem.W.mg_of X G a16, B16⟩
    d_product_of := ⟨F17, PySem.W.mg_of X G a17, B17⟩
    d_undone := ⟨F18, PySem.W.mg_of X G a18, B18⟩
    d__law_dice := ⟨F19, PySem.W.mg_of X G a19, B19⟩
    d__law_roll := ⟨F20, PySem.W.mg_of X G a20, B20⟩
    d__law_pick := ⟨F21, PySem.W.mg_of X G a21, B21⟩
    d__law_mixed := ⟨F22, PySem.W.mg_of X G a22, B22⟩
    d__law_word_drawn := ⟨F23, PySem.W.mg_of X G a23, B23⟩
    d__law_gcd := ⟨F24, PySem.W.mg_of X G a24, B24⟩
    d__law_lowest := ⟨F25, PySem.W.mg_of X G a25, B25⟩
    d__law_value_drawn := ⟨F26, PySem.W.mg_of X G a26, B26⟩
    d__law_unit := ⟨F27, PySem.W.mg_of X G a27, B27⟩
    d__law_times := ⟨F28, PySem.W.mg_of X G a28, B28⟩
    d__law_back := ⟨F29, PySem.W.mg_of X G a29, B29⟩
    d__law_product := ⟨F30, PySem.W.mg_of X G a30, B30⟩
    d__law_is_value := ⟨F31, PySem.W.mg_of X G a31, B31⟩
    d__law_odd := ⟨F32, PySem.W.mg_of X G a32, B32⟩
    d__law_right := ⟨F33, PySem.W.mg_of X G a33, B33⟩
    d_law := ⟨F34, PySem.W.mg_of X G a34, B34⟩
    b_abs := PySem.W.mg_none_of X G zz_abs
    b_all := PySem.W.mg_none_of X G zz_all
    b_bool := PySem.W.mg_none_of X G zz_bool
    b_int := PySem.W.mg_none_of X G zz_int
    b_isinstance := PySem.W.mg_none_of X G zz_isinstance
    b_len := PySem.W.mg_none_of X G zz_len
    b_list := PySem.W.mg_none_of X G zz_list
    b_max := PySem.W.mg_none_of X G zz_max
    b_min := PySem.W.mg_none_of X G zz_min
    b_range := PySem.W.mg_none_of X G zz_range
    b_repr := PySem.W.mg_none_of X G zz_repr
    b_sorted := PySem.W.mg_none_of X G zz_sorted
    b_str := PySem.W.mg_none_of X G zz_str
    b_tuple := PySem.W.mg_none_of X G zz_tuple
    c_KINDS := ⟨g_KINDS, [.str "words", .str "sums", .str "shares", .str "moves"], PySem.W.mg_of X G cn_KINDS, Or.inr ⟨_, _, _, cl_KINDS, rfl, rfl, rfl, (show (4 : Nat) ≤ sizeLine by decide), (.cons ⟨_, rfl⟩ (.cons ⟨_, rfl⟩ (.cons ⟨_, rfl⟩ (.cons ⟨_, rfl⟩ .nil))))⟩, (Reps.cons (.str _) (Reps.cons (.str _) (Reps.cons (.str _) (Reps.cons (.str _) Reps.nil))))⟩
    c_LETTERS := ⟨_, PySem.W.mg_of X G cn_LETTERS⟩
    c_MOST_LONG := ⟨_, PySem.W.mg_of X G cn_MOST_LONG⟩
    c_MOST_MOVED := ⟨_, PySem.W.mg_of X G cn_MOST_MOVED⟩
    c_MOVES := ⟨_, PySem.W.mg_of X G cn_MOVES⟩
    c_PAIR_SIZE := ⟨_, PySem.W.mg_of X G cn_PAIR_SIZE⟩
    c_SHARES := ⟨_, PySem.W.mg_of X G cn_SHARES⟩
    c_SUMS := ⟨_, PySem.W.mg_of X G cn_SUMS⟩
    c_WORDS := ⟨_, PySem.W.mg_of X G cn_WORDS⟩
  }
  exact ⟨(PySem.W.fnOf "law" "law" (defArgs s_law) (defBody s_law) (defScope s_law) .none kV34 dc34 pm34 an34 cd34 ct34), fun s v => .of_eq rfl, fun base _ _ => kp_law T⟩
end
end KK

namespace KK
abbrev W := List Nat
def cut : W → W → W × W
  | a :: x, b :: y => if a = b then cut x y else (a :: x, b :: y)
  | x, y => (x, y)
def lcp : W → W → Nat
  | a :: x, b :: y => if a = b then lcp x y + 1 else 0
  | _, _ => 0
theorem cut_nil (y : W) : cut [] y = ([], y) := by cases y <;> rfl
theorem cut_nil2 (x : W) : cut x [] = (x, []) := by cases x <;> rfl
theorem cut_same (a : Nat) (x y : W) : cut (a :: x) (a :: y) = cut x y := by rw [cut, if_pos rfl]
theorem cut_ne {a b : Nat} (x y : W) (h : a ≠ b) : cut (a :: x) (b :: y) = (a :: x, b :: y) := by rw [cut, if_neg h]
theorem cut_lcp : ∀ x y : W, cut x y = (x.drop (lcp x y), y.drop (lcp x y))
  | [], y => by rw [cut_nil]; cases y <;> rfl
  | a :: x, [] => rfl
  | a :: x, b :: y => by
    by_cases h : a = b
    · subst h; rw [cut_same, cut_lcp x y, lcp, if_pos rfl]; rfl
    · rw [cut_ne x y h, lcp, if_neg h]; rfl
theorem cut_swap : ∀ x y : W, cut y x = ((cut x y).2, (cut x y).1)
  | [], y => by rw [cut_nil, cut_nil2]
  | a :: x, [] => by rw [cut_nil, cut_nil2]
  | a :: x, b :: y => by
    by_cases h : a = b
    · subst h; rw [cut_same, cut_same, cut_swap x y]
    · rw [cut_ne x y h, cut_ne y x (Ne.symm h)]
theorem cut_app : ∀ x y u v : W, cut (x ++ u) (y ++ v) = cut ((cut x y).1 ++ u) ((cut x y).2 ++ v)
  | [], y, u, v => by rw [cut_nil]
  | a :: x, [], u, v => by rw [cut_nil2]
  | a :: x, b :: y, u, v => by
    by_cases h : a = b
    · subst h; rw [cut_same, List.cons_append, List.cons_append, cut_same, cut_app x y u v]
    · rw [cut_ne x y h]
theorem cut_cut : ∀ x y : W, cut (cut x y).1 (cut x y).2 = cut x y
  | [], y => by rw [cut_nil, cut_nil]
  | a :: x, [] => by rw [cut_nil2, cut_nil2]
  | a :: x, b :: y => by
    by_cases h : a = b
    · subst h; rw [cut_same, cut_cut x y]
    · rw [cut_ne x y h, cut_ne x y h]
theorem cut_eq_nil : ∀ {x y : W}, cut x y = ([], []) ↔ x = y
  | [], y => by rw [cut_nil]; constructor <;> intro h <;> simp_all
  | a :: x, [] => by rw [cut_nil2]; simp
  | a :: x, b :: y => by
    by_cases h : a = b
    · subst h; rw [cut_same, cut_eq_nil]; simp
    · rw [cut_ne x y h]; simp [h]
/-- neither begins with the other's first sign -/
def Red (l : W × W) : Prop := cut l.1 l.2 = l
theorem Red.of_cut (x y : W) : Red (cut x y) := cut_cut x y
theorem red_iff {x y : W} : Red (x, y) ↔ x = [] ∨ y = [] ∨ x.head? ≠ y.head? := by
  unfold Red
  cases x with
  | nil => simp [cut_nil]
  | cons a x =>
    cases y with
    | nil => simp [cut_nil2]
    | cons b y =>
      by_cases h : a = b
      · subst h
        simp only [cut_same, List.head?_cons, reduceCtorEq, ne_eq, not_true_eq_false, or_self, iff_false]
        intro z
        have : (cut x y).1.length ≤ x.length := by rw [cut_lcp]; simp
        rw [z] at this
        simp at this
        omega
      · simp [cut_ne x y h, h]
def led (l : W × W) (x y : W) : W × W := cut (l.1 ++ x) (l.2 ++ y)
theorem led_led (l : W × W) (x y z w : W) : led (led l x y) z w = led l (x ++ z) (y ++ w) := by
  unfold led
  rw [← cut_app, List.append_assoc, List.append_assoc]
theorem step_cases {l : W × W} (h : Red l) (c : Nat) : (cut (l.1 ++ [c]) l.2 = (l.1 ++ [c], l.2) ∧ ¬ (l.1 = [] ∧ l.2.head? = some c)) ∨ (l.1 = [] ∧ l.2 = c :: (cut (l.1 ++ [c]) l.2).2 ∧ (cut (l.1 ++ [c]) l.2).1 = []) := by
  obtain ⟨x, y⟩ := l
  rcases x with _ | ⟨a, x⟩
  · rcases y with _ | ⟨b, y⟩
    · exact Or.inl ⟨rfl, by simp⟩
    · by_cases e : c = b
      · subst e
        refine Or.inr ⟨rfl, ?_, ?_⟩
        · show c :: y = c :: (cut [c] (c :: y)).2
          rw [cut_same, cut_nil]
        · show (cut [c] (c :: y)).1 = []
          rw [cut_same, cut_nil]
      · refine Or.inl ⟨cut_ne [] y e, ?_⟩
        simp [Ne.symm e]
  · refine Or.inl ⟨?_, by simp⟩
    rcases y with _ | ⟨b, y⟩
    · rfl
    · have := red_iff.mp h
      simp at this
      exact cut_ne _ _ this
theorem step_inj {l m : W × W} (hl : Red l) (hm : Red m) {c : Nat} (e : cut (l.1 ++ [c]) l.2 = cut (m.1 ++ [c]) m.2) : l = m := by
  rcases step_cases hl c with ⟨h1, _⟩ | ⟨h1, h2, h3⟩ <;> rcases step_cases hm c with ⟨k1, _⟩ | ⟨k1, k2, k3⟩
  · rw [h1, k1] at e
    have e1 := congrArg Prod.fst e
    have e2 := congrArg Prod.snd e
    exact Prod.ext (List.append_cancel_right e1) e2
  · rw [h1] at e
    rw [← e] at k3
    simp at k3
  · rw [k1] at e
    rw [e] at h3
    simp at h3
  · rw [e] at h2
    exact Prod.ext (h1.trans k1.symm) (h2.trans k2.symm)
theorem led_inj1 : ∀ (x : W) {l m : W × W} (y : W), Red l → Red m → (∀ l m : W × W, Red l → Red m → cut l.1 (l.2 ++ y) = cut m.1 (m.2 ++ y) → l = m) → led l x y = led m x y → l = m
  | [], l, m, y, hl, hm, H, e => H l m hl hm (by simpa [led] using e)
  | c :: x, l, m, y, hl, hm, H, e => by
    have key : ∀ n : W × W, led n (c :: x) y = led (cut (n.1 ++ [c]) n.2) x y := fun n => by
      have := led_led n [c] [] x y
      simp only [led, List.append_nil, List.nil_append] at this ⊢
      rw [this]
      simp
    rw [key, key] at e
    exact step_inj hl hm (led_inj1 x y (Red.of_cut _ _) (Red.of_cut _ _) H e)
theorem Red.swap {l : W × W} (h : Red l) : Red (l.2, l.1) := by
  unfold Red at *
  show cut l.2 l.1 = _
  rw [cut_swap l.1 l.2, h]
theorem led_inj {l m : W × W} {x y : W} (hl : Red l) (hm : Red m) (e : led l x y = led m x y) : l = m := by
  refine led_inj1 x y hl hm (fun l m hl hm e => ?_) e
  have e' : led (l.2, l.1) y [] = led (m.2, m.1) y [] := by
    simp only [led, List.append_nil]
    rw [cut_swap l.1, cut_swap m.1, e]
  have := led_inj1 y [] hl.swap hm.swap (fun l m hl hm e => by
    rw [List.append_nil, List.append_nil] at e
    have h1 : cut l.1 l.2 = l := hl
    have h2 : cut m.1 m.2 = m := hm
    rw [h1, h2] at e
    exact e) e'
  have h1 := congrArg Prod.fst this
  have h2 := congrArg Prod.snd this
  exact Prod.ext h2 h1
/-- the leads that these values lead to the unit's -/
def dueW (x y : W) : List (W × W) :=
  if y.length ≤ x.length ∧ x.drop (x.length - y.length) = y then [([], x.take (x.length - y.length))]
  else if x.length ≤ y.length ∧ y.drop (y.length - x.length) = x then [(y.take (y.length - x.length), [])] else []
theorem dueW_iff {l : W × W} {x y : W} (h : Red l) : led l x y = ([], []) ↔ l ∈ dueW x y := by
  unfold led
  rw [cut_eq_nil]
  obtain ⟨p, q⟩ := l
  show p ++ x = q ++ y ↔ _
  unfold dueW
  have tk : ∀ {a b : W}, b.length ≤ a.length → a.drop (a.length - b.length) = b → a.take (a.length - b.length) ++ b = a := fun {a b} _ e => by
    conv => lhs; rw [← e]
    rw [e]
    conv => rhs; rw [← List.take_append_drop (a.length - b.length) a]
    rw [e]
  constructor
  · intro e
    have len := congrArg List.length e
    simp only [List.length_append] at len
    rcases red_iff.mp h with z | z | z
    · subst z
      simp only [List.nil_append, List.length_nil, Nat.zero_add] at e len
      have h1 : x.length - y.length = q.length := by omega
      rw [if_pos ⟨by omega, by rw [h1, e]; simp⟩, h1, e]
      simp
    · subst z
      simp only [List.nil_append, List.length_nil, Nat.zero_add] at e len
      have h1 : y.length - x.length = p.length := by omega
      by_cases hp : p = []
      · subst hp
        have e : x = y := e
        subst e
        simp
      · have : 0 < p.length := List.length_pos_iff.mpr hp
        rw [if_neg (by omega), if_pos ⟨by omega, by rw [h1, ← e]; simp⟩, h1, ← e]
        simp
    · rcases p with _ | ⟨a, p⟩
      · rcases q with _ | ⟨b, q⟩
        · simp at z
        · simp only [List.nil_append, List.length_nil, Nat.zero_add] at e len
          have h1 : x.length - y.length = (b :: q).length := by omega
          rw [if_pos ⟨by omega, by rw [h1, e]; simp⟩, h1, e]
          simp
      · rcases q with _ | ⟨b, q⟩
        · simp only [List.nil_append, List.length_nil, Nat.zero_add] at e len
          have h1 : y.length - x.length = (a :: p).length := by omega
          have : 0 < (a :: p).length := by simp
          rw [if_neg (by omega), if_pos ⟨by omega, by rw [h1, ← e]; simp⟩, h1, ← e]
          simp
        · simp at e z
          exact absurd e.1 z
  · intro hm
    split at hm
    · rename_i hc
      simp at hm
      obtain ⟨rfl, rfl⟩ := hm
      rw [List.nil_append, tk hc.1 hc.2]
    · split at hm
      · rename_i hc
        simp at hm
        obtain ⟨rfl, rfl⟩ := hm
        rw [List.nil_append, tk hc.1 hc.2]
      · simp at hm
theorem dueW_red {l : W × W} {x y : W} (h : l ∈ dueW x y) : Red l := by
  unfold dueW at h
  split at h
  · simp at h; subst h; exact red_iff.mpr (Or.inl rfl)
  · split at h
    · simp at h; subst h; exact red_iff.mpr (Or.inr (Or.inl rfl))
    · simp at h
end KK

namespace KK
structure Gp {G : Type} (ok : G → Prop) (mul : G → G → G) (inv : G → G) (one : G) : Prop where
  okm : ∀ {a b}, ok a → ok b → ok (mul a b)
  oki : ∀ {a}, ok a → ok (inv a)
  ok1 : ok one
  assoc : ∀ {a b c}, ok a → ok b → ok c → mul (mul a b) c = mul a (mul b c)
  onem : ∀ {a}, ok a → mul one a = a
  mone : ∀ {a}, ok a → mul a one = a
  invm : ∀ {a}, ok a → mul (inv a) a = one
  minv : ∀ {a}, ok a → mul a (inv a) = one
section
variable {G : Type} {ok : G → Prop} {mul : G → G → G} {inv : G → G} {one : G} (g : Gp ok mul inv one)
include g
theorem Gp.lcan {a b c : G} (ha : ok a) (hb : ok b) (hc : ok c) (e : mul a b = mul a c) : b = c := by
  have := congrArg (mul (inv a)) e
  rwa [← g.assoc (g.oki ha) ha hb, ← g.assoc (g.oki ha) ha hc, g.invm ha, g.onem hb, g.onem hc] at this
theorem Gp.rcan {a b c : G} (ha : ok a) (hb : ok b) (hc : ok c) (e : mul b a = mul c a) : b = c := by
  have : mul (mul b a) (inv a) = mul (mul c a) (inv a) := by rw [e]
  rwa [g.assoc hb ha (g.oki ha), g.assoc hc ha (g.oki ha), g.minv ha, g.mone hb, g.mone hc] at this
theorem Gp.invmul {a b : G} (ha : ok a) (hb : ok b) : inv (mul a b) = mul (inv b) (inv a) := by
  have hab := g.okm ha hb
  have ia := g.oki ha
  have ib := g.oki hb
  refine g.rcan hab (g.oki hab) (g.okm ib ia) ?_
  rw [g.invm hab, g.assoc ib ia hab, ← g.assoc ia ha hb, g.invm ha, g.onem hb, g.invm hb]
/-- a lead led on -/
def gled (mul : G → G → G) (inv : G → G) (l x y : G) : G := mul (mul (inv x) l) y
omit g in
theorem gled_ok (g : Gp ok mul inv one) {l x y : G} (hl : ok l) (hx : ok x) (hy : ok y) : ok (gled mul inv l x y) := g.okm (g.okm (g.oki hx) hl) hy
theorem Gp.led_led {l x y z w : G} (hl : ok l) (hx : ok x) (hy : ok y) (hz : ok z) (hw : ok w) : gled mul inv (gled mul inv l x y) z w = gled mul inv l (mul x z) (mul y w) := by
  have ix := g.oki hx
  have iz := g.oki hz
  have xl := g.okm ix hl
  unfold gled
  rw [g.invmul hx hz, ← g.assoc iz xl hy, g.assoc (g.okm iz xl) hy hw, g.assoc iz ix hl]
theorem Gp.led_inj {l m x y : G} (hl : ok l) (hm : ok m) (hx : ok x) (hy : ok y) (e : gled mul inv l x y = gled mul inv m x y) : l = m :=
  g.lcan (g.oki hx) hl hm (g.rcan hy (g.okm (g.oki hx) hl) (g.okm (g.oki hx) hm) e)
theorem Gp.led_one {x y : G} (hx : ok x) (hy : ok y) : gled mul inv one x y = mul (inv x) y := by
  unfold gled
  rw [g.mone (g.oki hx)]
theorem Gp.due {l x y : G} (hl : ok l) (hx : ok x) (hy : ok y) : gled mul inv l x y = one ↔ l = mul x (inv y) := by
  have h0 : gled mul inv (mul x (inv y)) x y = one := by
    unfold gled
    rw [← g.assoc (g.oki hx) hx (g.oki hy), g.invm hx, g.onem (g.oki hy), g.invm hy]
  constructor
  · intro e
    exact g.led_inj hl (g.okm hx (g.oki hy)) hx hy (e.trans h0.symm)
  · intro e
    rw [e]; exact h0
end

theorem gp_sums : Gp (G := Int) (fun _ => True) (· + ·) (fun a => -a) 0 := by
  refine ⟨fun _ _ => trivial, fun _ => trivial, trivial, fun _ _ _ => Int.add_assoc _ _ _, fun _ => Int.zero_add _, fun _ => Int.add_zero _, fun _ => ?_, fun _ => ?_⟩
  · exact Int.add_left_neg _
  · exact Int.add_right_neg _

abbrev Fr := Nat × Nat
def redP (a b : Nat) : Fr := (a / Nat.gcd a b, b / Nat.gcd a b)
structure Sh (x : Fr) : Prop where
  h1 : 0 < x.1
  h2 : 0 < x.2
  co : Nat.gcd x.1 x.2 = 1
/-- x is a / b -/
def Is (x : Fr) (a b : Nat) : Prop := x.1 * b = a * x.2
theorem redP_sh {a b : Nat} (ha : 0 < a) (hb : 0 < b) : Sh (redP a b) := by
  have g : 0 < Nat.gcd a b := Nat.gcd_pos_of_pos_left _ ha
  exact ⟨Nat.div_pos (Nat.le_of_dvd ha (Nat.gcd_dvd_left a b)) g, Nat.div_pos (Nat.le_of_dvd hb (Nat.gcd_dvd_right a b)) g, Nat.gcd_div_gcd_div_gcd_of_pos_left ha⟩
theorem redP_is (a b : Nat) : Is (redP a b) a b := by
  unfold Is redP
  obtain ⟨c, hc⟩ := Nat.gcd_dvd_left a b
  obtain ⟨d, hd⟩ := Nat.gcd_dvd_right a b
  show a / Nat.gcd a b * b = a * (b / Nat.gcd a b)
  rw [← Nat.mul_div_assoc a (Nat.gcd_dvd_right a b), Nat.mul_comm (a / Nat.gcd a b), ← Nat.mul_div_assoc b (Nat.gcd_dvd_left a b), Nat.mul_comm]
theorem Sh.uniq {x y : Fr} (hx : Sh x) (hy : Sh y) (e : x.1 * y.2 = y.1 * x.2) : x = y := by
  have d1 : x.1 ∣ y.1 := by
    have : x.1 ∣ y.1 * x.2 := ⟨y.2, e.symm⟩
    exact Nat.Coprime.dvd_of_dvd_mul_right hx.co this
  have d2 : y.1 ∣ x.1 := by
    have : y.1 ∣ x.1 * y.2 := ⟨x.2, e⟩
    exact Nat.Coprime.dvd_of_dvd_mul_right hy.co this
  have e1 : x.1 = y.1 := Nat.dvd_antisymm d1 d2
  have e2 : x.2 = y.2 := by
    rw [e1] at e
    exact (Nat.eq_of_mul_eq_mul_left hy.h1 e).symm
  exact Prod.ext e1 e2
theorem Sh.same {x y : Fr} {a b c d : Nat} (hx : Sh x) (hy : Sh y) (ix : Is x a b) (iy : Is y c d) (hb : 0 < b) (hd : 0 < d) (e : a * d = c * b) : x = y := by
  refine hx.uniq hy ?_
  unfold Is at ix iy
  have : (x.1 * y.2) * (b * d) = (y.1 * x.2) * (b * d) := by
    calc (x.1 * y.2) * (b * d) = (x.1 * b) * (y.2 * d) := by ac_rfl
      _ = (a * x.2) * (y.2 * d) := by rw [ix]
      _ = (a * d) * (x.2 * y.2) := by ac_rfl
      _ = (c * b) * (x.2 * y.2) := by rw [e]
      _ = (c * y.2) * (x.2 * b) := by ac_rfl
      _ = (y.1 * d) * (x.2 * b) := by rw [iy]
      _ = (y.1 * x.2) * (b * d) := by ac_rfl
  exact Nat.eq_of_mul_eq_mul_right (Nat.mul_pos hb hd) this
def shMul (x y : Fr) : Fr := redP (x.1 * y.1) (x.2 * y.2)
def shInv (x : Fr) : Fr := (x.2, x.1)
theorem shMul_sh {x y : Fr} (hx : Sh x) (hy : Sh y) : Sh (shMul x y) := redP_sh (Nat.mul_pos hx.h1 hy.h1) (Nat.mul_pos hx.h2 hy.h2)
theorem shMul_is {x y : Fr} {a b c d : Nat} (hx : Sh x) (hy : Sh y) (ix : Is x a b) (iy : Is y c d) : Is (shMul x y) (a * c) (b * d) := by
  have h := redP_is (x.1 * y.1) (x.2 * y.2)
  have e : (shMul x y).1 * (x.2 * y.2) = x.1 * y.1 * (shMul x y).2 := h
  unfold Is at *
  have : ((shMul x y).1 * (b * d)) * (x.2 * y.2) = (a * c * (shMul x y).2) * (x.2 * y.2) := by
    calc ((shMul x y).1 * (b * d)) * (x.2 * y.2) = ((shMul x y).1 * (x.2 * y.2)) * (b * d) := by ac_rfl
      _ = (x.1 * y.1 * (shMul x y).2) * (b * d) := by rw [e]
      _ = (x.1 * b) * (y.1 * d) * (shMul x y).2 := by ac_rfl
      _ = (a * x.2) * (c * y.2) * (shMul x y).2 := by rw [ix, iy]
      _ = (a * c * (shMul x y).2) * (x.2 * y.2) := by ac_rfl
  exact Nat.eq_of_mul_eq_mul_right (Nat.mul_pos hx.h2 hy.h2) this
theorem self_is (x : Fr) : Is x x.1 x.2 := rfl
theorem shInv_sh {x : Fr} (h : Sh x) : Sh (shInv x) := ⟨h.h2, h.h1, by have := h.co; rw [Nat.gcd_comm]; exact this⟩
theorem sh_one : Sh (1, 1) := ⟨by decide, by decide, by decide⟩
theorem gp_shares : Gp Sh shMul shInv (1, 1) where
  okm := shMul_sh
  oki := shInv_sh
  ok1 := sh_one
  assoc {a b c} ha hb hc := (shMul_sh (shMul_sh ha hb) hc).same (shMul_sh ha (shMul_sh hb hc)) (shMul_is (shMul_sh ha hb) hc (shMul_is ha hb (self_is a) (self_is b)) (self_is c)) (shMul_is ha (shMul_sh hb hc) (self_is a) (shMul_is hb hc (self_is b) (self_is c)))
    (Nat.mul_pos (Nat.mul_pos ha.h2 hb.h2) hc.h2) (Nat.mul_pos ha.h2 (Nat.mul_pos hb.h2 hc.h2)) (by ac_rfl)
  onem {a} ha := (shMul_sh sh_one ha).same ha (shMul_is sh_one ha (self_is _) (self_is a)) (self_is a) (Nat.mul_pos (by decide) ha.h2) ha.h2 (by simp)
  mone {a} ha := (shMul_sh ha sh_one).same ha (shMul_is ha sh_one (self_is a) (self_is _)) (self_is a) (Nat.mul_pos ha.h2 (by decide)) ha.h2 (by simp)
  invm {a} ha := (shMul_sh (shInv_sh ha) ha).same sh_one (shMul_is (shInv_sh ha) ha (self_is _) (self_is a)) (self_is _) (Nat.mul_pos ha.h1 ha.h2) (by decide) (by simp [shInv]; ac_rfl)
  minv {a} ha := (shMul_sh ha (shInv_sh ha)).same sh_one (shMul_is ha (shInv_sh ha) (self_is a) (self_is _)) (self_is _) (Nat.mul_pos ha.h2 ha.h1) (by decide) (by simp [shInv]; ac_rfl)

def IsP (n : Nat) (p : W) : Prop := p.Perm (List.range n)
def mvMul (a b : W) : W := a.map fun i => b.getD i 0
def mvInv (a : W) : W := (List.range a.length).map fun i => a.idxOf i
theorem IsP.len {n : Nat} {p : W} (h : IsP n p) : p.length = n := by
  have := h.length_eq
  simpa using this
theorem IsP.mem {n : Nat} {p : W} (h : IsP n p) {i : Nat} : i ∈ p ↔ i < n := by
  rw [h.mem_iff, List.mem_range]
theorem IsP.nd {n : Nat} {p : W} (h : IsP n p) : p.Nodup := h.nodup_iff.mpr List.nodup_range
theorem map_self {p : W} : (List.range p.length).map (fun i => p.getD i 0) = p := by
  apply List.ext_getElem
  · simp
  · intro i h1 h2
    simp at h1
    simp [h1]
theorem getD_map {a : W} {f : Nat → Nat} {i : Nat} (h : i < a.length) : (a.map f).getD i 0 = f (a.getD i 0) := by
  simp [h]
theorem get_idx? : ∀ {p : W} {i : Nat}, i ∈ p → p[p.idxOf i]? = some i
  | a :: p, i, h => by
    by_cases e : a = i
    · subst e; simp [List.idxOf_cons]
    · have hi : i ∈ p := (List.mem_cons.mp h).resolve_left (fun z => e z.symm)
      have := get_idx? hi
      rw [List.idxOf_cons]
      have eb : (a == i) = false := by simpa using e
      rw [eb]
      simpa using this
theorem get_idx {p : W} {i : Nat} (h : i ∈ p) : p.getD (p.idxOf i) 0 = i := by
  rw [List.getD_eq_getElem?_getD, get_idx? h]
  rfl
theorem idx_get {p : W} (h : p.Nodup) {i : Nat} (hi : i < p.length) : p.idxOf (p[i]) = i :=
  DL.nd_get h (get_idx? (List.getElem_mem hi)) (List.getElem?_eq_getElem hi)
theorem map_idx {p : W} (h : p.Nodup) : p.map (fun i => p.idxOf i) = List.range p.length := by
  apply List.ext_getElem
  · simp
  · intro i h1 h2
    simp at h1
    simp [idx_get h h1]
theorem gp_moves (n : Nat) : Gp (IsP n) mvMul mvInv (List.range n) where
  okm {a b} ha hb := by
    have h1 : (mvMul a b).Perm ((List.range n).map fun i => b.getD i 0) := List.Perm.map _ ha
    rw [← hb.len, map_self] at h1
    exact h1.trans hb
  oki {a} ha := by
    have h1 : (a.map fun i => a.idxOf i).Perm ((List.range n).map fun i => a.idxOf i) := List.Perm.map _ ha
    rw [map_idx ha.nd, ha.len] at h1
    unfold mvInv
    rw [ha.len]
    exact h1.symm
  ok1 := List.Perm.refl _
  assoc {a b c} ha hb hc := by
    unfold mvMul
    rw [List.map_map]
    apply List.map_congr_left
    intro i hi
    have := ha.mem.mp hi
    show c.getD (b.getD i 0) 0 = (b.map fun i => c.getD i 0).getD i 0
    rw [getD_map (by rw [hb.len]; exact this)]
  onem {a} ha := by
    unfold mvMul
    rw [← ha.len]
    exact map_self
  mone {a} ha := by
    unfold mvMul
    conv => rhs; rw [← List.map_id a]
    apply List.map_congr_left
    intro i hi
    have := ha.mem.mp hi
    simp [this]
  invm {a} ha := by
    unfold mvMul mvInv
    rw [List.map_map, ha.len]
    conv => rhs; rw [← List.map_id (List.range n)]
    apply List.map_congr_left
    intro i hi
    exact get_idx (ha.mem.mpr (List.mem_range.mp hi))
  minv {a} ha := by
    have h1 := map_idx ha.nd
    rw [ha.len] at h1
    rw [← h1]
    unfold mvMul mvInv
    apply List.map_congr_left
    intro i hi
    have := ha.mem.mp hi
    simp [ha.len, this]
end KK

namespace KK
open PySem L2 DL

@[simp] theorem e_fnOf (n : Nat) (fb : Fst) (as : List Sl) (γ : Bxs) : fnOf n fb as γ = (fb (as ++ List.replicate (n - as.length) .un) γ).bind doneO := rfl
@[simp] theorem e_rt (s : Sl) (γ : Bxs) : doneO (.rt s γ) = some (s, γ) := rfl
@[simp] theorem e_nx (ρ : Row) (γ : Bxs) : doneO (.nx ρ γ) = some (.d .none, γ) := rfl
@[simp] theorem e_gN (i : Nat) (d : D) (ρ : Row) : gN i d ρ = some (ρ.set i (.d d)) := rfl
@[simp] theorem e_sSeq (f g : Fst) (ρ : Row) (γ : Bxs) : (sSeq f g : _) ρ γ = ((f ρ γ).bind fun o => match o with | .nx ρ1 γ1 => g ρ1 γ1 | o => some o) := by
  first | rfl | (unfold sSeq; rfl)
@[simp] theorem e_sIf (c : Ft) (f g : Fst) (ρ : Row) (γ : Bxs) : (sIf c f g : _) ρ γ = ((c ρ γ).bind fun p => if p.1 = true then f p.2.1 p.2.2 else g p.2.1 p.2.2) := by
  first | rfl | (unfold sIf; rfl)
@[simp] theorem e_sRet (q : Fq) (ρ : Row) (γ : Bxs) : (sRet q : _) ρ γ = ((q ρ γ).map fun p => .rt p.1 p.2.2) := by
  first | rfl | (unfold sRet; rfl)
@[simp] theorem e_sSet (i : Nat) (q : Fq) (ρ : Row) (γ : Bxs) : (sSet i q : _) ρ γ = ((q ρ γ).map fun p => .nx (p.2.1.set i p.1) p.2.2) := by
  first | rfl | (unfold sSet; rfl)
@[simp] theorem e_sPar (i j : Nat) (q r : Fq) (ρ : Row) (γ : Bxs) : (sPar i j q r : _) ρ γ = ((q ρ γ).bind fun p => (r p.2.1 p.2.2).map fun s => .nx ((s.2.1.set i p.1).set j s.1) s.2.2) := by
  first | rfl | (unfold sPar; rfl)
@[simp] theorem e_sAsg (a : Fx) (g : Fg1) (ρ : Row) (γ : Bxs) : (sAsg a g : _) ρ γ = ((a ρ γ).bind fun p => (g p.1 p.2.1).map fun ρ1 => .nx ρ1 p.2.2) := by
  first | rfl | (unfold sAsg; rfl)
@[simp] theorem e_sDrop (a : Fx) (ρ : Row) (γ : Bxs) : (sDrop a : _) ρ γ = ((a ρ γ).map fun p => .nx p.2.1 p.2.2) := by
  first | rfl | (unfold sDrop; rfl)
@[simp] theorem e_sNext  (ρ : Row) (γ : Bxs) : (sNext : _) ρ γ = (some (.nx ρ γ)) := by
  first | rfl | (unfold sNext; rfl)
@[simp] theorem e_qE (a : Fx) (ρ : Row) (γ : Bxs) : (qE a : _) ρ γ = ((a ρ γ).map fun p => (.d p.1, p.2)) := by
  first | rfl | (unfold qE; rfl)
@[simp] theorem e_qL (a : Fs) (ρ : Row) (γ : Bxs) : (qL a : _) ρ γ = ((a ρ γ).bind fun p => if p.1.length ≤ sizeLine then some (.ol p.1, p.2) else none) := by
  first | rfl | (unfold qL; rfl)
@[simp] theorem e_qCall (fn : Fn) (a : Fa) (ρ : Row) (γ : Bxs) : (qCall fn a : _) ρ γ = ((a ρ γ).bind fun p => (fn p.1 p.2.2).map fun q => (q.1, p.2.1, q.2)) := by
  first | rfl | (unfold qCall; rfl)
@[simp] theorem e_fQ (q : Fq) (ρ : Row) (γ : Bxs) : (fQ q : _) ρ γ = ((q ρ γ).bind fun p => match p.1 with | .ol xs => some (.list xs, p.2) | .d x => some (x, p.2) | _ => none) := by
  first | rfl | (unfold fQ; rfl)
@[simp] theorem e_fC (d : D) (ρ : Row) (γ : Bxs) : (fC d : _) ρ γ = (some (d, ρ, γ)) := by
  first | rfl | (unfold fC; rfl)
@[simp] theorem e_f1 (g : D → Option D) (a : Fx) (ρ : Row) (γ : Bxs) : (f1 g a : _) ρ γ = ((a ρ γ).bind fun p => (g p.1).map fun z => (z, p.2)) := by
  first | rfl | (unfold f1; rfl)
@[simp] theorem e_f2 (g : D → D → Option D) (a b : Fx) (ρ : Row) (γ : Bxs) : (f2 g a b : _) ρ γ = ((a ρ γ).bind fun p => (b p.2.1 p.2.2).bind fun q => (g p.1 q.1).map fun z => (z, q.2)) := by
  first | rfl | (unfold f2; rfl)
@[simp] theorem e_fS (g : List D → Option D) (a : Fs) (ρ : Row) (γ : Bxs) : (fS g a : _) ρ γ = ((a ρ γ).bind fun p => (g p.1).map fun z => (z, p.2)) := by
  first | rfl | (unfold fS; rfl)
@[simp] theorem e_fNil  (ρ : Row) (γ : Bxs) : (fNil : _) ρ γ = (some ([], ρ, γ)) := by
  first | rfl | (unfold fNil; rfl)
@[simp] theorem e_fCons (a : Fx) (r : Fs) (ρ : Row) (γ : Bxs) : (fCons a r : _) ρ γ = ((a ρ γ).bind fun p => (r p.2.1 p.2.2).map fun q => (p.1 :: q.1, q.2)) := by
  first | rfl | (unfold fCons; rfl)
@[simp] theorem e_fIf (c : Ft) (a b : Fx) (ρ : Row) (γ : Bxs) : (fIf c a b : _) ρ γ = ((c ρ γ).bind fun p => if p.1 = true then a p.2.1 p.2.2 else b p.2.1 p.2.2) := by
  first | rfl | (unfold fIf; rfl)
@[simp] theorem e_fTru (a : Fx) (ρ : Row) (γ : Bxs) : (fTru a : _) ρ γ = ((a ρ γ).bind fun p => (truD p.1).map fun z => (z, p.2)) := by
  first | rfl | (unfold fTru; rfl)
@[simp] theorem e_fBl (a : Fx) (ρ : Row) (γ : Bxs) : (fBl a : _) ρ γ = ((a ρ γ).bind fun p => match p.1 with | .bool b => some (b, p.2) | _ => none) := by
  first | rfl | (unfold fBl; rfl)
@[simp] theorem e_fAndT (a b : Ft) (ρ : Row) (γ : Bxs) : (fAndT a b : _) ρ γ = ((a ρ γ).bind fun p => if p.1 = true then b p.2.1 p.2.2 else some (false, p.2)) := by
  first | rfl | (unfold fAndT; rfl)
@[simp] theorem e_fOrT (a b : Ft) (ρ : Row) (γ : Bxs) : (fOrT a b : _) ρ γ = ((a ρ γ).bind fun p => if p.1 = true then some (true, p.2) else b p.2.1 p.2.2) := by
  first | rfl | (unfold fOrT; rfl)
@[simp] theorem e_fNotT (a : Ft) (ρ : Row) (γ : Bxs) : (fNotT a : _) ρ γ = ((a ρ γ).map fun p => (!p.1, p.2)) := by
  first | rfl | (unfold fNotT; rfl)
@[simp] theorem e_fNo  (ρ : Row) (γ : Bxs) : (fNo : _) ρ γ = (some (none, ρ, γ)) := by
  first | rfl | (unfold fNo; rfl)
@[simp] theorem e_fPt (a : Fx) (ρ : Row) (γ : Bxs) : (fPt a : _) ρ γ = ((a ρ γ).bind fun p => match p.1 with | .int i => some (some i, p.2) | _ => none) := by
  first | rfl | (unfold fPt; rfl)
@[simp] theorem e_fSl (a : Fx) (l h : Fo) (ρ : Row) (γ : Bxs) : (fSl a l h : _) ρ γ = ((a ρ γ).bind fun p => (l p.2.1 p.2.2).bind fun q => (h q.2.1 q.2.2).bind fun r => (slD p.1 q.1 r.1).map fun z => (z, r.2)) := by
  first | rfl | (unfold fSl; rfl)
@[simp] theorem e_fM (g : D → List D → Option D) (a : Fx) (r : Fs) (ρ : Row) (γ : Bxs) : (fM g a r : _) ρ γ = ((a ρ γ).bind fun p => (r p.2.1 p.2.2).bind fun q => (g p.1 q.1).map fun z => (z, q.2)) := by
  first | rfl | (unfold fM; rfl)
@[simp] theorem e_fTupO (a : Fx) (ρ : Row) (γ : Bxs) : (fTupO a : _) ρ γ = ((a ρ γ).bind fun p => match p.1 with | .list xs => some (.tuple xs, p.2) | .tuple xs => some (.tuple xs, p.2) | _ => none) := by
  first | rfl | (unfold fTupO; rfl)
@[simp] theorem e_aNil  (ρ : Row) (γ : Bxs) : (aNil : _) ρ γ = (some ([], ρ, γ)) := by
  first | rfl | (unfold aNil; rfl)
@[simp] theorem e_aE (a : Fx) (r : Fa) (ρ : Row) (γ : Bxs) : (aE a r : _) ρ γ = ((a ρ γ).bind fun p => (r p.2.1 p.2.2).map fun q => (.d p.1 :: q.1, q.2)) := by
  first | rfl | (unfold aE; rfl)
@[simp] theorem e_fTup (a : Fs) (ρ : Row) (γ : Bxs) : (fTup a : _) ρ γ = ((a ρ γ).bind fun p => (if p.1.length ≤ sizeLine then some (.tuple p.1) else none).map fun z => (z, p.2)) := by
  first | rfl | (unfold fTup; rfl)
@[simp] theorem e_fLst (a : Fs) (ρ : Row) (γ : Bxs) : (fLst a : _) ρ γ = ((a ρ γ).bind fun p => (if p.1.length ≤ sizeLine then some (.list p.1) else none).map fun z => (z, p.2)) := by
  first | rfl | (unfold fLst; rfl)
@[simp] theorem e_fV (i : Nat) (ρ : Row) (γ : Bxs) : fV i ρ γ = (match ρ[i]? with | some (.d x) => some (x, ρ, γ) | _ => none) := rfl

theorem log2_lt {i : Int} {k : Nat} (h : i.natAbs < 2 ^ k) (hk : 0 < k) : i.natAbs.log2 < k := by
  by_cases z : i.natAbs = 0
  · rw [z]; simpa using hk
  · exact (Nat.log2_lt z).mpr h
theorem mulD_ok {i j : Int} (hi : i.natAbs < 2 ^ 4000) (hj : j.natAbs < 2 ^ 4000) : mulD (.int i) (.int j) = some (.int (i * j)) := by
  have h1 := log2_lt hi (by decide)
  have h2 := log2_lt hj (by decide)
  simp only [mulD]
  rw [if_pos (by omega)]
theorem fdivD_ok {i j : Int} (h : 0 < j) (hj : j.natAbs < 2 ^ 4000) : fdivD (.int i) (.int j) = some (.int (i / j)) := by
  have h2 := log2_lt hj (by decide)
  simp only [fdivD]
  rw [if_pos ⟨h, by omega⟩]
theorem modD_ok {i j : Int} (h : 0 < j) : modD (.int i) (.int j) = some (.int (i % j)) := by
  simp only [modD]
  rw [if_pos h]
/-- small numbers -/
theorem sm {i : Int} (h0 : -(10 ^ 400) < i) (h1 : i < 10 ^ 400) : i.natAbs < 2 ^ 4000 := by
  have h2 : i.natAbs < 10 ^ 400 := by omega
  have h3 : (10 : Nat) ^ 400 ≤ 2 ^ 4000 := by decide +kernel
  exact Nat.lt_of_lt_of_le h2 h3
@[simp] theorem e_addI (i j : Int) : addD (.int i) (.int j) = some (.int (i + j)) := rfl
@[simp] theorem e_subI (i j : Int) : subD (.int i) (.int j) = some (.int (i - j)) := rfl
@[simp] theorem e_ltI (i j : Int) : ltD (.int i) (.int j) = some (.bool (decide (i < j))) := rfl
@[simp] theorem e_gtI (i j : Int) : gtD (.int i) (.int j) = some (.bool (decide (j < i))) := rfl
@[simp] theorem e_leI (i j : Int) : leD (.int i) (.int j) = some (.bool (decide (i ≤ j))) := rfl
@[simp] theorem e_geI (i j : Int) : geD (.int i) (.int j) = some (.bool (decide (j ≤ i))) := rfl
@[simp] theorem e_negI (i : Int) : negD (.int i) = some (.int (-i)) := rfl
@[simp] theorem e_intI (i : Int) : intD [.int i] = some (.int i) := rfl
@[simp] theorem e_intB (b : Bool) : intD [.bool b] = some (.int (if b then 1 else 0)) := rfl
@[simp] theorem e_truB (b : Bool) : truD (.bool b) = some b := rfl

/-- the dice have been rolled at most n times -/
def Dc (n : Nat) (γ : Bxs) : Prop := ∃ a b c : Int, γ = [[.int a, .int b, .int c]] ∧ 0 ≤ a ∧ a < 10 ^ 120 ∧ 0 ≤ b ∧ b < 10 ^ 30 ∧ 0 ≤ c ∧ c ≤ n
theorem Dc.mono {n m : Nat} {γ : Bxs} (h : Dc n γ) (e : n ≤ m) : Dc m γ := by
  obtain ⟨a, b, c, h1, h2, h3, h4, h5, h6, h7⟩ := h
  exact ⟨a, b, c, h1, h2, h3, h4, h5, h6, by omega⟩
theorem roll {n : Nat} {γ : Bxs} {t : Int} (h : Dc n γ) (hn : n ≤ 1000000) (ht : 0 < t) (ht2 : t < 10 ^ 100) :
    ∃ (r : Int) (γ' : Bxs), F__law_roll [.bx 0, .d (.int t)] γ = some (.d (.int r), γ') ∧ 0 ≤ r ∧ r < t ∧ Dc (n + 1) γ' := by
  obtain ⟨a, b, c, rfl, a0, a1, b0, b1, c0, c1⟩ := h
  have tt : t.natAbs < 2 ^ 4000 := sm (by omega) (by omega)
  by_cases ha : 0 < a
  · refine ⟨a % t, [[.int (a / t), .int b, .int c]], ?_, Int.emod_nonneg _ (by omega), Int.emod_lt_of_pos _ ht, a / t, b, c, rfl, Int.ediv_nonneg a0 (by omega), ?_, b0, b1, c0, by omega⟩
    · simp [F__law_roll, f__law_roll, List.replicate_succ, fIxO, sSetO, ctO, putO, ixD, atI, ixN, ha, modD_ok ht, fdivD_ok ht tt, intOf]
    · exact Int.lt_of_le_of_lt (Int.ediv_le_self _ a0) a1
  · have m1 : mulD (.int 49979687) (.int (c + 1)) = some (.int (49979687 * (c + 1))) := mulD_ok (by decide) (sm (by omega) (by omega))
    generalize hx : (b + 49979687 * (c + 1)) % 2305843009213693907 = x
    have x0 : 0 ≤ x := by rw [← hx]; exact Int.emod_nonneg _ (by decide)
    have x1 : x < 2305843009213693907 := by rw [← hx]; exact Int.emod_lt_of_pos _ (by decide)
    have m2 : mulD (.int x) (.int x) = some (.int (x * x)) := mulD_ok (sm (by omega) (by omega)) (sm (by omega) (by omega))
    have m3 : mulD (.int 97) (.int (c + 1)) = some (.int (97 * (c + 1))) := mulD_ok (by decide) (sm (by omega) (by omega))
    generalize hy : (x * x + 97 * (c + 1)) % 2305843009213693921 = y
    have y0 : 0 ≤ y := by rw [← hy]; exact Int.emod_nonneg _ (by decide)
    have y1 : y < 2305843009213693921 := by rw [← hy]; exact Int.emod_lt_of_pos _ (by decide)
    have m4 : mulD (.int y) (.int 7368791) = some (.int (y * 7368791)) := mulD_ok (sm (by omega) (by omega)) (by decide)
    have d1 : ∀ i : Int, fdivD (.int i) (.int 65536) = some (.int (i / 65536)) := fun i => fdivD_ok (by decide) (by decide)
    have q1 : ∀ i : Int, modD (.int i) (.int 2305843009213693907) = some (.int (i % 2305843009213693907)) := fun i => modD_ok (by decide)
    have q2 : ∀ i : Int, modD (.int i) (.int 2305843009213693921) = some (.int (i % 2305843009213693921)) := fun i => modD_ok (by decide)
    refine ⟨(y * 7368791 + x) / 65536 % t, [[.int a, .int b, .int (c + 1)]], ?_, Int.emod_nonneg _ (by omega), Int.emod_lt_of_pos _ ht, a, b, c + 1, rfl, a0, a1, b0, b1, by omega, by omega⟩
    simp [F__law_roll, f__law_roll, List.replicate_succ, fIxO, sSetO, ctO, putO, ixD, atI, ixN, ha, modD_ok ht, q1, q2, d1, intOf, m1, m3, hx, m2, hy, m4]
end KK

namespace KK
open PySem L2 DL

theorem unS_one {i : Nat} {ρ : Row} (h : ρ.set i .un = ρ) (x : Sl) : unS [i] (ρ.set i x) = ρ := by
  show (ρ.set i x).set i .un = ρ
  rw [List.set_set]; exact h
/-- a comprehension with an invariant -/
theorem lcL_inv {i : Nat} {ft : Ft} {fe : Fx} {ρ : Row} (hρ : ρ.set i .un = ρ) (P : Nat → Bxs → List D → Prop) : ∀ (ds : List D) (k : Nat) (acc : List D) (γ : Bxs),
    (∀ j d acc γ, ds[j]? = some d → P (k + j) γ acc → ∃ b γ1, ft (ρ.set i (.d d)) γ = some (b, ρ.set i (.d d), γ1) ∧ (b = false → P (k + j + 1) γ1 acc) ∧
      (b = true → ∃ v γ2, fe (ρ.set i (.d d)) γ1 = some (v, ρ.set i (.d d), γ2) ∧ P (k + j + 1) γ2 (acc ++ [v]))) →
    P k γ acc → acc.length + ds.length ≤ sizeLine → ∃ res γ', lcL [i] (gN i) ft fe ds acc ρ γ = some (res, ρ, γ') ∧ P (k + ds.length) γ' res
  | [], k, acc, γ, _, h0, _ => ⟨acc, γ, rfl, h0⟩
  | d :: ds, k, acc, γ, H, h0, hz => by
    simp only [List.length_cons] at hz
    obtain ⟨b, γ1, h1, h2, h3⟩ := H 0 d acc γ rfl h0
    have next : ∀ (acc' : List D) (γ' : Bxs), P (k + 1) γ' acc' → acc'.length ≤ acc.length + 1 → ∃ res γ'', lcL [i] (gN i) ft fe ds acc' ρ γ' = some (res, ρ, γ'') ∧ P (k + (d :: ds).length) γ'' res := fun acc' γ' hp hl => by
      have := lcL_inv hρ P ds (k + 1) acc' γ' (fun j e acc γ hj hp => by
        have := H (j + 1) e acc γ (by simpa using hj) (by rw [show k + (j + 1) = k + 1 + j by omega]; exact hp)
        rw [show k + (j + 1) = k + 1 + j by omega] at this
        exact this) hp (by omega)
      rw [show k + (d :: ds).length = k + 1 + ds.length by simp; omega]
      exact this
    cases b with
    | false =>
      obtain ⟨res, γ', e, p⟩ := next acc γ1 (h2 rfl) (by omega)
      exact ⟨res, γ', by simp [lcL, h1, unS_one hρ, e], p⟩
    | true =>
      obtain ⟨v, γ2, h4, h5⟩ := h3 rfl
      obtain ⟨res, γ', e, p⟩ := next _ γ2 h5 (by simp)
      refine ⟨res, γ', ?_, p⟩
      simp only [lcL, e_gN, Option.bind_some, h1, if_true, h4, unS_one hρ]
      rw [if_pos (by omega)]
      exact e
/-- one that rolls no dice -/
theorem lcL_pure {i : Nat} {ft : Ft} {fe : Fx} {ρ : Row} {γ : Bxs} (hρ : ρ.set i .un = ρ) (p : D → Bool) (h : D → D) : ∀ (ds acc : List D),
    (∀ d ∈ ds, ft (ρ.set i (.d d)) γ = some (p d, ρ.set i (.d d), γ) ∧ (p d = true → fe (ρ.set i (.d d)) γ = some (h d, ρ.set i (.d d), γ))) →
    acc.length + ds.length ≤ sizeLine → lcL [i] (gN i) ft fe ds acc ρ γ = some (acc ++ (ds.filter p).map h, ρ, γ)
  | [], acc, _, _ => by simp [lcL]
  | d :: ds, acc, H, hz => by
    simp only [List.length_cons] at hz
    obtain ⟨h1, h2⟩ := H d List.mem_cons_self
    have H' : ∀ e ∈ ds, _ := fun e he => H e (List.mem_cons_of_mem _ he)
    cases hp : p d with
    | false =>
      rw [hp] at h1
      have := lcL_pure hρ p h ds acc H' (by omega)
      simp [lcL, h1, unS_one hρ, this, hp]
    | true =>
      rw [hp] at h1
      have h3 := h2 hp
      have := lcL_pure hρ p h ds (acc ++ [h d]) H' (by simp; omega)
      simp only [lcL, e_gN, Option.bind_some, h1, if_true, h3, unS_one hρ]
      rw [if_pos (by omega), this]
      simp [hp]
/-- a for with an invariant, each turn ending in its place -/
theorem forL_inv {i : Nat} {fb : Fst} (P : Nat → Row → Bxs → Prop) : ∀ (ds : List D) (k : Nat) (ρ : Row) (γ : Bxs),
    (∀ j d ρ γ, ds[j]? = some d → P (k + j) ρ γ → ∃ ρ' γ', fb (ρ.set i (.d d)) γ = some (.nx ρ' γ') ∧ P (k + j + 1) ρ' γ') →
    P k ρ γ → ∃ ρ' γ', forL (gN i) fb ds ρ γ = some (.nx ρ' γ') ∧ P (k + ds.length) ρ' γ'
  | [], k, ρ, γ, _, h0 => ⟨ρ, γ, rfl, h0⟩
  | d :: ds, k, ρ, γ, H, h0 => by
    obtain ⟨ρ1, γ1, h1, h2⟩ := H 0 d ρ γ rfl h0
    obtain ⟨ρ2, γ2, h3, h4⟩ := forL_inv P ds (k + 1) ρ1 γ1 (fun j e ρ γ hj hp => by
      have := H (j + 1) e ρ γ (by simpa using hj) (by rw [show k + (j + 1) = k + 1 + j by omega]; exact hp)
      rw [show k + (j + 1) = k + 1 + j by omega] at this
      exact this) h2
    refine ⟨ρ2, γ2, ?_, by rw [show k + (d :: ds).length = k + 1 + ds.length by simp; omega]; exact h4⟩
    simp [forL, h1, h3]
theorem whL_mono {c : Ft} {fb : Fst} : ∀ {n : Nat} {ρ : Row} {γ : Bxs} {o : Oc} (k : Nat), whL c fb n ρ γ = some o → whL c fb (n + k) ρ γ = some o
  | 0, ρ, γ, o, k, h => by cases h
  | n + 1, ρ, γ, o, k, h => by
    rw [show n + 1 + k = (n + k) + 1 by omega]
    simp only [whL] at h ⊢
    obtain ⟨p, h1, h⟩ := bind_some h
    rw [h1]
    simp only [Option.bind_some]
    split at h
    · rename_i hp
      rw [if_pos hp]
      obtain ⟨q, h2, h⟩ := bind_some h
      rw [h2]
      simp only [Option.bind_some]
      cases q with
      | nx a b => exact whL_mono k h
      | ct a b => exact whL_mono k h
      | bk a b => exact h
      | rt a b => exact h
    · rename_i hp
      rw [if_neg hp]
      exact h
theorem big_le {n : Nat} (h : n < 2 ^ 4000) : n ≤ BIG := by
  have : (2 : Nat) ^ 4000 ≤ BIG := by unfold BIG; exact Nat.pow_le_pow_right (by decide) (by decide)
  omega
theorem sW_of {c : Ft} {fb : Fst} {n : Nat} {ρ : Row} {γ : Bxs} {o : Oc} (h : whL c fb n ρ γ = some o) (hn : n < 2 ^ 4000) : sW c fb ρ γ = some o := by
  have := whL_mono (BIG - n) h
  rwa [Nat.add_sub_cancel' (big_le hn)] at this
theorem whL_go {c : Ft} {fb : Fst} {n : Nat} {ρ ρ' : Row} {γ γ' : Bxs} (h1 : c ρ γ = some (true, ρ, γ)) (h2 : fb ρ γ = some (.nx ρ' γ')) : whL c fb (n + 1) ρ γ = whL c fb n ρ' γ' := by
  simp [whL, h1, h2]
theorem whL_end {c : Ft} {fb : Fst} {n : Nat} {ρ : Row} {γ : Bxs} (h1 : c ρ γ = some (false, ρ, γ)) : whL c fb (n + 1) ρ γ = some (.nx ρ γ) := by
  simp [whL, h1]

@[simp] theorem e_lenS (w : W) (h : w.length ≤ sizeLine) : lenD [.str (S w)] = some (.int w.length) := by
  have : (S w).length = w.length := S_len w
  simp only [lenD, this]
  rw [if_pos h]
theorem str_S {x y : Str} : x = y ↔ x.cps.toList = y.cps.toList := by
  cases x; cases y
  simp
theorem S_inj {v w : W} : S v = S w ↔ v = w := by
  rw [str_S]
theorem glue_S : ∀ (w : W) (init : Array Nat), ((w.map fun c => S [c]).foldl (fun acc p => acc ++ (S []).cps ++ p.cps) init).toList = init.toList ++ w
  | [], init => by simp
  | c :: w, init => by
    rw [List.map_cons, List.foldl_cons, glue_S w]
    simp
theorem join_S (w : W) : Txt.join (S []) (w.map fun c => S [c]) = S w := by
  apply str_S.mpr
  cases w with
  | nil => rfl
  | cons c w =>
    have := glue_S w (S [c]).cps
    exact this
theorem strs_signs (w : W) : strsOf (w.map fun c => PyData.str (S [c])) = some (w.map fun c => S [c]) := by
  have := strsOf_map (w.map fun c => S [c])
  rwa [List.map_map] at this
@[simp] theorem e_join (w : W) (h : w.length ≤ 16777216) : joinD (.str (S [])) [.list (w.map fun c => .str (S [c]))] = some (.str (S w)) := by
  simp only [joinD, strs_signs, Option.bind_some, join_S]
  rw [if_pos]
  have : ∀ w : W, ((w.map fun c => S [c]).map (·.length)).sum = w.length := by
    intro w
    induction w with
    | nil => rfl
    | cons c w ih => simp only [List.map_cons, List.sum_cons, ih, List.length_cons]; rw [S_len]; simp; omega
  rw [this, S_len]
  simpa using h

theorem e_range {r : Int} (h0 : -(2 ^ 62) ≤ r) (h1 : r < 2 ^ 62) : range1D [.int r] = some ((List.range r.toNat).map fun i => .int (i : Nat)) := by
  simp only [range1D]
  rw [if_pos (inB_iff.mpr ⟨by omega, by omega⟩)]
theorem emp : ("" : Str) = S [] := by decide +kernel
theorem pick_str {n : Nat} {γ : Bxs} {w : W} (h : Dc n γ) (hn : n ≤ 1000000) (hw : w ≠ []) (hz : w.length ≤ 1000) : ∃ c γ', F__law_pick [.bx 0, .d (.str (S w))] γ = some (.d (.str (S [c])), γ') ∧ c ∈ w ∧ Dc (n + 1) γ' := by
  have hl : 0 < w.length := List.length_pos_iff.mpr hw
  obtain ⟨r, γ', e, h0, h1, d⟩ := roll h hn (t := w.length) (by omega) (by omega)
  have hz' : w.length ≤ sizeLine := by rw [sizeLine_eq]; omega
  have hr : r.toNat < w.length := by omega
  refine ⟨w[r.toNat], γ', ?_, List.getElem_mem hr, d⟩
  have el : (S w).length = w.length := S_len w
  simp [F__law_pick, f__law_pick, List.replicate_succ, aB, e_lenS w hz', e, ixD, el, hz', atI, ixN, h0, h1, hr]
theorem pick_list {n : Nat} {γ : Bxs} {ds : List D} (h : Dc n γ) (hn : n ≤ 1000000) (hw : ds ≠ []) (hz : ds.length ≤ 1000) : ∃ d γ', F__law_pick [.bx 0, .d (.list ds)] γ = some (.d d, γ') ∧ d ∈ ds ∧ Dc (n + 1) γ' := by
  have hl : 0 < ds.length := List.length_pos_iff.mpr hw
  obtain ⟨r, γ', e, h0, h1, d⟩ := roll h hn (t := ds.length) (by omega) (by omega)
  have hr : r.toNat < ds.length := by omega
  refine ⟨ds[r.toNat], γ', ?_, List.getElem_mem hr, d⟩
  simp [F__law_pick, f__law_pick, List.replicate_succ, aB, lenD, e, ixD, atI, ixN, h0, h1, hr]
theorem word_drawn {n : Nat} {γ : Bxs} {most : Nat} {w : W} (h : Dc n γ) (hn : n ≤ 900000) (hw : w ≠ []) (hz : w.length ≤ 1000) (hm : most ≤ 1000) :
    ∃ v γ', F__law_word_drawn [.bx 0, .d (.int most), .d (.str (S w))] γ = some (.d (.str (S v)), γ') ∧ (∀ c ∈ v, c ∈ w) ∧ v.length ≤ most ∧ Dc (n + most + 1) γ' := by
  obtain ⟨r, γ1, e1, r0, r1, d1⟩ := roll h (by omega) (t := most + 1) (by omega) (by omega)
  obtain ⟨res, γ', e2, v, rfl, hv, hl, d2⟩ := lcL_inv (i := 3) (ft := fYes) (fe := fQ (qCall F__law_pick (aB 0 (aE (fV 2) aNil)))) (ρ := [.bx 0, .d (.int most), .d (.str (S w)), .un]) rfl
    (fun k γ acc => ∃ v : W, acc = v.map (fun c => .str (S [c])) ∧ (∀ c ∈ v, c ∈ w) ∧ v.length = k ∧ Dc (n + 1 + k) γ)
    ((List.range r.toNat).map fun i => .int (i : Nat)) 0 [] γ1 (fun j d acc γ hj ⟨v, ea, hv, hl, dc⟩ => by
      have hjr : j < r.toNat := by
        have := (List.getElem?_eq_some_iff.mp hj).1
        simpa using this
      refine ⟨true, γ, rfl, (fun z => nomatch z), fun _ => ?_⟩
      obtain ⟨c, γ', e, hc, dc'⟩ := pick_str dc (by omega) hw hz
      refine ⟨.str (S [c]), γ', by simp [aB, e], v ++ [c], by simp [ea], fun x hx => ?_, by simp [hl], dc'⟩
      rcases List.mem_append.mp hx with z | z
      · exact hv x z
      · rw [List.mem_singleton.mp z]; exact hc) ⟨[], rfl, (fun _ z => nomatch z), rfl, d1⟩ (by simp [sizeLine_eq]; omega)
  simp only [List.length_map, List.length_range, Nat.zero_add] at hl d2
  refine ⟨v, γ', ?_, hv, by omega, d2.mono (by omega)⟩
  have hb : range1D [.int r] = some ((List.range r.toNat).map fun i => .int (i : Nat)) := e_range (by omega) (by omega)
  have hv2 : v.length ≤ 16777216 := by omega
  simp [F__law_word_drawn, f__law_word_drawn, List.replicate_succ, aB, e1, iR, hb, qLc, unS, e2, emp, e_join v hv2]
end KK

namespace KK
open PySem L2 DL

@[simp] theorem e_eqS (x y : Str) : eqD (.str x) (.str y) = some (.bool (x == y)) := by
  simp only [eqD, PyData.plain, PyData.depth, PyData.eqv]
  rw [if_pos]
  decide
@[simp] theorem e_neS (x y : Str) : neD (.str x) (.str y) = some (.bool (!(x == y))) := by
  simp only [neD, PyData.plain, PyData.depth, PyData.eqv]
  rw [if_pos]
  decide
@[simp] theorem k1 : ¬ ("words" : Str) = "sums" := by decide +kernel
@[simp] theorem k2 : ¬ ("words" : Str) = "shares" := by decide +kernel
@[simp] theorem k3 : ¬ ("words" : Str) = "moves" := by decide +kernel
@[simp] theorem k4 : ¬ ("sums" : Str) = "words" := by decide +kernel
@[simp] theorem k5 : ¬ ("sums" : Str) = "shares" := by decide +kernel
@[simp] theorem k6 : ¬ ("sums" : Str) = "moves" := by decide +kernel
@[simp] theorem k7 : ¬ ("shares" : Str) = "words" := by decide +kernel
@[simp] theorem k8 : ¬ ("shares" : Str) = "sums" := by decide +kernel
@[simp] theorem k9 : ¬ ("shares" : Str) = "moves" := by decide +kernel
@[simp] theorem k10 : ¬ ("moves" : Str) = "words" := by decide +kernel
@[simp] theorem k11 : ¬ ("moves" : Str) = "sums" := by decide +kernel
@[simp] theorem k12 : ¬ ("moves" : Str) = "shares" := by decide +kernel
@[simp] theorem e_inS (x : Str) (ys : List Str) : inD (.str x) (.tuple (ys.map PyData.str)) = some (.bool (ys.any fun y => y == x)) := by
  have hp : PyData.plainAll (ys.map PyData.str) = true := by
    induction ys with
    | nil => rfl
    | cons y ys ih => simp [PyData.plainAll, PyData.plain, ih]
  simp only [inD, hasD]
  rw [if_pos ⟨hp, rfl, by show (0 : Nat) ≤ 60; decide⟩, List.any_map]
  rfl
@[simp] theorem e_in2 (x a b : Str) : inD (.str x) (.tuple [.str a, .str b]) = some (.bool (a == x || (b == x))) := by
  have := e_inS x [a, b]
  simpa using this
@[simp] theorem e_in4 (x a b c d : Str) : inD (.str x) (.tuple [.str a, .str b, .str c, .str d]) = some (.bool (a == x || (b == x || (c == x || d == x)))) := by
  have := e_inS x [a, b, c, d]
  simpa using this
@[simp] theorem e_sz2 : ¬ sizeLine < 2 := by decide
@[simp] theorem e_sz2' : (2 : Nat) ≤ sizeLine := by decide

def LM : Nat := 2 ^ 3900
theorem LM1 {n : Nat} (h : n < LM) : n < 2 ^ 3999 := Nat.lt_of_lt_of_le h (by unfold LM; exact Nat.pow_le_pow_right (by decide) (by decide))
theorem LM2 {n : Nat} (h : n < LM) : (n : Int).natAbs < 2 ^ 4000 := by
  rw [Int.natAbs_natCast]
  exact Nat.lt_of_lt_of_le h (by unfold LM; exact Nat.pow_le_pow_right (by decide) (by decide))
theorem gcd_go (ft : Ft) (fb : Fst) (γ : Bxs) (R : Int → Int → Row) (h0 : ∀ l r : Int, ft (R l r) γ = some (decide (0 < r), R l r, γ)) (h1 : ∀ l r : Int, 0 < r → fb (R l r) γ = some (.nx (R r (l % r)) γ)) :
    ∀ (n l r : Nat), r < n → whL ft fb n (R l r) γ = some (.nx (R (Nat.gcd l r) 0) γ)
  | 0, l, r, h => absurd h (Nat.not_lt_zero _)
  | n + 1, l, r, h => by
    by_cases hr : r = 0
    · subst hr
      rw [whL_end (by simpa using h0 l 0)]
      simp
    · have p : (0 : Int) < r := by omega
      have q := h0 l r
      rw [decide_eq_true p] at q
      rw [whL_go q (h1 l r p)]
      have e : ((l : Int) % (r : Int)) = ((l % r : Nat) : Int) := by simp
      have lt : l % r < r := Nat.mod_lt _ (by omega)
      rw [e, gcd_go ft fb γ R h0 h1 n r (l % r) (by omega)]
      have eg : Nat.gcd r (l % r) = Nat.gcd l r := by
        rw [Nat.gcd_comm r, ← Nat.gcd_rec, Nat.gcd_comm]
      rw [eg]
theorem divisor_of (a b : Nat) (hb : b < 2 ^ 3999) (γ : Bxs) : F_divisor_of [.d (.int a), .d (.int b)] γ = some (.d (.int (Nat.gcd a b)), γ) := by
  have hw := fun ft fb h0 h1 => sW_of (gcd_go ft fb γ (fun l r => [.d (.int a), .d (.int b), .d (.int l), .d (.int r)]) h0 h1 (b + 1) a b (by omega)) (by omega)
  simp [F_divisor_of, f_divisor_of, List.replicate_succ]
  rw [hw]
  · simp
  · intro l r; simp
  · intro l r p; simp [modD_ok p]
theorem law_gcd (a b : Nat) (hb : b < 2 ^ 3999) (γ : Bxs) : F__law_gcd [.d (.int a), .d (.int b)] γ = some (.d (.int (Nat.gcd a b)), γ) := by
  have hw := fun ft fb h0 h1 => sW_of (gcd_go ft fb γ (fun l r => [.d (.int a), .d (.int b), .d (.int l), .d (.int r)]) h0 h1 (b + 1) a b (by omega)) (by omega)
  simp [F__law_gcd, f__law_gcd, List.replicate_succ]
  rw [hw]
  · simp
  · intro l r; simp
  · intro l r p; simp [modD_ok p]
/-- a share as data -/
def eSh (x : Fr) : D := .tuple [.int x.1, .int x.2]
theorem gcd_sm {a b : Nat} (ha : 0 < a) (h : a < LM) : ((Nat.gcd a b : Nat) : Int).natAbs < 2 ^ 4000 :=
  LM2 (Nat.lt_of_le_of_lt (Nat.gcd_le_left b ha) h)
theorem p400 {b : Nat} (h : b < LM) : b < 2 ^ 3999 := LM1 h
theorem lowered {a b : Nat} (ha : 0 < a) (ha2 : a < LM) (hb : b < LM) (γ : Bxs) : F_lowered [.d (.int a), .d (.int b)] γ = some (.d (eSh (redP a b)), γ) := by
  have g0 : (0 : Int) < (Nat.gcd a b : Nat) := by
    have := Nat.gcd_pos_of_pos_left b ha
    omega
  have d1 := fun i => fdivD_ok (i := i) g0 (gcd_sm ha ha2)
  simp [F_lowered, f_lowered, List.replicate_succ, divisor_of a b (p400 hb), d1, eSh, redP]
theorem law_lowest {a b : Nat} (ha : 0 < a) (ha2 : a < LM) (hb : b < LM) (γ : Bxs) : F__law_lowest [.d (.int a), .d (.int b)] γ = some (.d (eSh (redP a b)), γ) := by
  have g0 : (0 : Int) < (Nat.gcd a b : Nat) := by
    have := Nat.gcd_pos_of_pos_left b ha
    omega
  have d1 := fun i => fdivD_ok (i := i) g0 (gcd_sm ha ha2)
  simp [F__law_lowest, f__law_lowest, List.replicate_succ, law_gcd a b (p400 hb), d1, eSh, redP]

@[simp] theorem e_ix0 (a b : D) : ixD (.tuple [a, b]) (.int 0) = some a := rfl
@[simp] theorem e_ix1 (a b : D) : ixD (.tuple [a, b]) (.int 1) = some b := rfl
theorem mulN {a b : Nat} (ha : 0 < a) (hb : 0 < b) (h : a * b < LM) : mulD (.int a) (.int b) = some (.int ((a * b : Nat) : Int)) := by
  have h1 : a ≤ a * b := Nat.le_mul_of_pos_right a hb
  have h2 : b ≤ a * b := Nat.le_mul_of_pos_left b ha
  rw [mulD_ok (LM2 (Nat.lt_of_le_of_lt h1 h)) (LM2 (Nat.lt_of_le_of_lt h2 h))]
  simp
theorem mult_sh {x y : Fr} (hx : Sh x) (hy : Sh y) (h1 : x.1 * y.1 < LM) (h2 : x.2 * y.2 < LM) (γ : Bxs) :
    F_multiplied [.d (.str "shares"), .d (eSh x), .d (eSh y)] γ = some (.d (eSh (shMul x y)), γ) := by
  have := lowered (a := x.1 * y.1) (b := x.2 * y.2) (Nat.mul_pos hx.h1 hy.h1) h1 h2 γ
  simp [F_multiplied, f_multiplied, List.replicate_succ, eSh, mulN hx.h1 hy.h1 h1, mulN hx.h2 hy.h2 h2] at this ⊢
  rw [this]
  simp [shMul]
theorem times_sh {x y : Fr} (hx : Sh x) (hy : Sh y) (h1 : x.1 * y.1 < LM) (h2 : x.2 * y.2 < LM) (γ : Bxs) :
    F__law_times [.d (.str "shares"), .d (eSh x), .d (eSh y)] γ = some (.d (eSh (shMul x y)), γ) := by
  have := law_lowest (a := x.1 * y.1) (b := x.2 * y.2) (Nat.mul_pos hx.h1 hy.h1) h1 h2 γ
  simp [F__law_times, f__law_times, List.replicate_succ, eSh, mulN hx.h1 hy.h1 h1, mulN hx.h2 hy.h2 h2] at this ⊢
  rw [this]
  simp [shMul]
theorem back_sh (x : Fr) (γ : Bxs) : F_taken_back [.d (.str "shares"), .d (eSh x)] γ = some (.d (eSh (shInv x)), γ) := by
  simp [F_taken_back, f_taken_back, List.replicate_succ, eSh, shInv]
theorem lback_sh (x : Fr) (γ : Bxs) : F__law_back [.d (.str "shares"), .d (eSh x)] γ = some (.d (eSh (shInv x)), γ) := by
  simp [F__law_back, f__law_back, List.replicate_succ, eSh, shInv]
theorem mult_su (x y : Int) (γ : Bxs) : F_multiplied [.d (.str "sums"), .d (.int x), .d (.int y)] γ = some (.d (.int (x + y)), γ) := by
  simp [F_multiplied, f_multiplied, List.replicate_succ]
theorem times_su (x y : Int) (γ : Bxs) : F__law_times [.d (.str "sums"), .d (.int x), .d (.int y)] γ = some (.d (.int (x + y)), γ) := by
  simp [F__law_times, f__law_times, List.replicate_succ]
theorem back_su (x : Int) (γ : Bxs) : F_taken_back [.d (.str "sums"), .d (.int x)] γ = some (.d (.int (-x)), γ) := by
  simp [F_taken_back, f_taken_back, List.replicate_succ]
theorem lback_su (x : Int) (γ : Bxs) : F__law_back [.d (.str "sums"), .d (.int x)] γ = some (.d (.int (-x)), γ) := by
  simp [F__law_back, f__law_back, List.replicate_succ]
end KK

namespace KK
open PySem L2 DL

theorem lcL_fm {α : Type} {i : Nat} {ft : Ft} {fe : Fx} {ρ : Row} {γ : Bxs} (hρ : ρ.set i .un = ρ) (e : α → D) (p : α → Bool) (h : α → D) : ∀ (xs : List α) (acc : List D),
    (∀ x ∈ xs, ft (ρ.set i (.d (e x))) γ = some (p x, ρ.set i (.d (e x)), γ) ∧ (p x = true → fe (ρ.set i (.d (e x))) γ = some (h x, ρ.set i (.d (e x)), γ))) →
    acc.length + xs.length ≤ sizeLine → lcL [i] (gN i) ft fe (xs.map e) acc ρ γ = some (acc ++ (xs.filter p).map h, ρ, γ)
  | [], acc, _, _ => by simp [lcL]
  | x :: xs, acc, H, hz => by
    simp only [List.length_cons] at hz
    obtain ⟨h1, h2⟩ := H x List.mem_cons_self
    have H' : ∀ y ∈ xs, _ := fun y hy => H y (List.mem_cons_of_mem _ hy)
    cases hp : p x with
    | false =>
      rw [hp] at h1
      have := lcL_fm hρ e p h xs acc H' (by omega)
      simp [lcL, h1, unS_one hρ, this, hp]
    | true =>
      rw [hp] at h1
      have h3 := h2 hp
      have := lcL_fm hρ e p h xs (acc ++ [h x]) H' (by simp; omega)
      simp only [List.map_cons, lcL, e_gN, Option.bind_some, h1, if_true, h3, unS_one hρ]
      rw [if_pos (by omega), this]
      simp [hp]
theorem lcL_map {α : Type} {i : Nat} {fe : Fx} {ρ : Row} {γ : Bxs} (hρ : ρ.set i .un = ρ) (e : α → D) (h : α → D) (xs : List α)
    (H : ∀ x ∈ xs, fe (ρ.set i (.d (e x))) γ = some (h x, ρ.set i (.d (e x)), γ)) (hz : xs.length ≤ sizeLine) : lcL [i] (gN i) fYes fe (xs.map e) [] ρ γ = some (xs.map h, ρ, γ) := by
  have := lcL_fm (ft := fYes) (fe := fe) (γ := γ) hρ e (fun _ => true) h xs [] (fun x hx => ⟨rfl, fun _ => H x hx⟩) (by simpa using hz)
  have ft : xs.filter (fun _ => true) = xs := List.filter_eq_self.mpr fun _ _ => rfl
  rw [ft] at this
  exact this

theorem eqvAll_ints : ∀ ns ms : List Int, PyData.eqvAll (ns.map PyData.int) (ms.map PyData.int) = decide (ns = ms)
  | [], [] => by simp [PyData.eqvAll]
  | [], _ :: _ => by simp [PyData.eqvAll]
  | _ :: _, [] => by simp [PyData.eqvAll]
  | n :: ns, m :: ms => by
    simp only [List.map_cons, PyData.eqvAll, PyData.eqv, eqvAll_ints ns ms]
    rw [Bool.eq_iff_iff]
    simp
theorem plainInts : ∀ ns : List Int, PyData.plainAll (ns.map PyData.int) = true
  | [] => rfl
  | n :: ns => by simp [PyData.plainAll, PyData.plain, plainInts ns]
theorem depthInts : ∀ ns : List Int, PyData.depthAll (ns.map PyData.int) = 0
  | [] => rfl
  | n :: ns => by simp [PyData.depthAll, PyData.depth, depthInts ns]
theorem e_eqTI (ns ms : List Int) : eqD (.tuple (ns.map PyData.int)) (.tuple (ms.map PyData.int)) = some (.bool (decide (ns = ms))) := by
  simp only [eqD, PyData.plain, PyData.depth, PyData.eqv, plainInts, depthInts, eqvAll_ints]
  rw [if_pos]
  exact ⟨trivial, trivial, by decide⟩
theorem e_eqLI (ns ms : List Int) : eqD (.list (ns.map PyData.int)) (.list (ms.map PyData.int)) = some (.bool (decide (ns = ms))) := by
  simp only [eqD, PyData.plain, PyData.depth, PyData.eqv, plainInts, depthInts, eqvAll_ints]
  rw [if_pos]
  exact ⟨trivial, trivial, by decide⟩
def iD (i : Nat) : D := .int (i : Int)
def eMv (p : W) : D := .tuple (p.map iD)
theorem iD_map (p : W) : p.map iD = (p.map fun i : Nat => (i : Int)).map PyData.int := by rw [List.map_map]; rfl
theorem ints_iD (p : W) : intsOf (p.map iD) = some (p.map fun i : Nat => (i : Int)) := by rw [iD_map, intsOf_map]
theorem ix_iD {b : W} {i : Nat} (h : i < b.length) : ixD (.tuple (b.map iD)) (iD i) = some (iD (b.getD i 0)) := by
  simp [ixD, iD, atI, ixN, h]
theorem idx_cast (i : Nat) : ∀ p : W, (p.map fun i : Nat => (i : Int)).idxOf (i : Int) = p.idxOf i
  | [] => rfl
  | a :: p => by
    by_cases e : a = i
    · subst e; simp [List.idxOf_cons]
    · have e' : ¬ (a : Int) = (i : Int) := by omega
      simp only [List.map_cons, List.idxOf_cons]
      have b1 : (a == i) = false := by simpa using e
      have b2 : ((a : Int) == (i : Int)) = false := by simpa using e'
      rw [b1, b2, idx_cast i p]
theorem sz5 {n : Nat} (h : n ≤ 1000) : n ≤ sizeLine := by rw [sizeLine_eq]; omega
theorem mult_mv {a b : W} (ha : ∀ i ∈ a, i < b.length) (hl : a.length ≤ 1000) (γ : Bxs) : F_multiplied [.d (.str "moves"), .d (eMv a), .d (eMv b)] γ = some (.d (eMv (mvMul a b)), γ) := by
  have := lcL_map (i := 3) (fe := f2 ixD (fV 2) (fV 3)) (ρ := [.d (.str "moves"), .d (eMv a), .d (eMv b), .un]) (γ := γ) rfl iD (fun i => iD (b.getD i 0)) a (fun i hi => by simp [eMv, ix_iD (ha i hi)]) (sz5 hl)
  simp [F_multiplied, f_multiplied, List.replicate_succ, qLc, iE, itemsD, unS]
  simp [eMv] at this ⊢
  rw [this]
  simp [mvMul]
theorem times_mv {a b : W} (ha : ∀ i ∈ a, i < b.length) (hl : a.length ≤ 1000) (γ : Bxs) : F__law_times [.d (.str "moves"), .d (eMv a), .d (eMv b)] γ = some (.d (eMv (mvMul a b)), γ) := by
  have := lcL_map (i := 3) (fe := f2 ixD (fV 2) (fV 3)) (ρ := [.d (.str "moves"), .d (eMv a), .d (eMv b), .un]) (γ := γ) rfl iD (fun i => iD (b.getD i 0)) a (fun i hi => by simp [eMv, ix_iD (ha i hi)]) (sz5 hl)
  simp [F__law_times, f__law_times, List.replicate_succ, qLc, iE, itemsD, unS]
  simp [eMv] at this ⊢
  rw [this]
  simp [mvMul]
@[simp] theorem e_lenT (xs : List D) : lenD [.tuple xs] = some (.int xs.length) := rfl
@[simp] theorem e_lenL (xs : List D) : lenD [.list xs] = some (.int xs.length) := rfl
theorem rg_iD (n : Nat) (h : n ≤ 1000) : range1D [.int (n : Int)] = some ((List.range n).map iD) := by
  rw [e_range (by omega) (by omega)]
  simp [iD]
theorem index_mv {p : W} {i : Nat} (hm : i ∈ p) : indexD (.tuple (p.map iD)) [.int i] = some (iD (p.idxOf i)) := by
  have hm2 : (i : Int) ∈ p.map fun i : Nat => (i : Int) := List.mem_map.mpr ⟨i, hm, rfl⟩
  simp only [indexD, ints_iD, Option.bind_some, if_pos hm2, idx_cast]
  rfl
theorem back_mv {n : Nat} {p : W} (h : IsP n p) (hn : n ≤ 1000) (γ : Bxs) : F_taken_back [.d (.str "moves"), .d (eMv p)] γ = some (.d (eMv (mvInv p)), γ) := by
  have hl := h.len
  have hz : p.length ≤ 1000 := by omega
  have hr := rg_iD p.length hz
  have hc := lcL_map (i := 2) (fe := fM indexD (fV 1) (fCons (fV 2) fNil)) (ρ := [.d (.str "moves"), .d (eMv p), .un]) (γ := γ) rfl iD (fun i => iD (p.idxOf i)) (List.range p.length) (fun i hi => by
    have hm : i ∈ p := h.mem.mpr (by rw [← hl]; exact List.mem_range.mp hi)
    have := index_mv hm
    simp [eMv, iD] at this ⊢
    simp [this]) (by rw [List.length_range]; exact sz5 hz)
  have e1 : (f_taken_back [.d (.str "moves"), .d (eMv p), .un] γ) = some (.rt (.d (eMv (mvInv p))) γ) := by
    unfold f_taken_back
    simp only [e_sSeq, e_sIf, e_fBl, e_f2, e_fV, e_fC, List.getElem?_cons_zero, Option.bind_some]
    simp [qLc, iR, unS, eMv, hr, mvInv] at hc ⊢
    simp [hc]
  unfold F_taken_back
  simp [List.replicate_succ, e1]
end KK

namespace KK
open PySem L2 DL

theorem kit_NoneType_int : kitB "NoneType" "int" = some false := by decide +kernel
theorem kit_bool_int : kitB "bool" "int" = some true := by decide +kernel
theorem kit_int_int : kitB "int" "int" = some true := by decide +kernel
theorem kit_str_int : kitB "str" "int" = some false := by decide +kernel
theorem kit_list_int : kitB "list" "int" = some false := by decide +kernel
theorem kit_tuple_int : kitB "tuple" "int" = some false := by decide +kernel
theorem kit_dict_int : kitB "dict" "int" = some false := by decide +kernel
theorem kit_NoneType_bool : kitB "NoneType" "bool" = some false := by decide +kernel
theorem kit_bool_bool : kitB "bool" "bool" = some true := by decide +kernel
theorem kit_int_bool : kitB "int" "bool" = some false := by decide +kernel
theorem kit_str_bool : kitB "str" "bool" = some false := by decide +kernel
theorem kit_list_bool : kitB "list" "bool" = some false := by decide +kernel
theorem kit_tuple_bool : kitB "tuple" "bool" = some false := by decide +kernel
theorem kit_dict_bool : kitB "dict" "bool" = some false := by decide +kernel
theorem kit_NoneType_str : kitB "NoneType" "str" = some false := by decide +kernel
theorem kit_bool_str : kitB "bool" "str" = some false := by decide +kernel
theorem kit_int_str : kitB "int" "str" = some false := by decide +kernel
theorem kit_str_str : kitB "str" "str" = some true := by decide +kernel
theorem kit_list_str : kitB "list" "str" = some false := by decide +kernel
theorem kit_tuple_str : kitB "tuple" "str" = some false := by decide +kernel
theorem kit_dict_str : kitB "dict" "str" = some false := by decide +kernel
theorem kit_NoneType_tuple : kitB "NoneType" "tuple" = some false := by decide +kernel
theorem kit_bool_tuple : kitB "bool" "tuple" = some false := by decide +kernel
theorem kit_int_tuple : kitB "int" "tuple" = some false := by decide +kernel
theorem kit_str_tuple : kitB "str" "tuple" = some false := by decide +kernel
theorem kit_list_tuple : kitB "list" "tuple" = some false := by decide +kernel
theorem kit_tuple_tuple : kitB "tuple" "tuple" = some true := by decide +kernel
theorem kit_dict_tuple : kitB "dict" "tuple" = some false := by decide +kernel
@[simp] theorem is_NoneType_int : isD "int" .none = some (.bool false) := by simp [isD, tyN, kit_NoneType_int]
@[simp] theorem is_bool_int (b : Bool) : isD "int" (.bool b) = some (.bool true) := by simp [isD, tyN, kit_bool_int]
@[simp] theorem is_int_int (i : Int) : isD "int" (.int i) = some (.bool true) := by simp [isD, tyN, kit_int_int]
@[simp] theorem is_str_int (x : Str) : isD "int" (.str x) = some (.bool false) := by simp [isD, tyN, kit_str_int]
@[simp] theorem is_list_int (x : List D) : isD "int" (.list x) = some (.bool false) := by simp [isD, tyN, kit_list_int]
@[simp] theorem is_tuple_int (x : List D) : isD "int" (.tuple x) = some (.bool false) := by simp [isD, tyN, kit_tuple_int]
@[simp] theorem is_dict_int (x : List (D × D)) : isD "int" (.dict x) = some (.bool false) := by simp [isD, tyN, kit_dict_int]
@[simp] theorem is_NoneType_bool : isD "bool" .none = some (.bool false) := by simp [isD, tyN, kit_NoneType_bool]
@[simp] theorem is_bool_bool (b : Bool) : isD "bool" (.bool b) = some (.bool true) := by simp [isD, tyN, kit_bool_bool]
@[simp] theorem is_int_bool (i : Int) : isD "bool" (.int i) = some (.bool false) := by simp [isD, tyN, kit_int_bool]
@[simp] theorem is_str_bool (x : Str) : isD "bool" (.str x) = some (.bool false) := by simp [isD, tyN, kit_str_bool]
@[simp] theorem is_list_bool (x : List D) : isD "bool" (.list x) = some (.bool false) := by simp [isD, tyN, kit_list_bool]
@[simp] theorem is_tuple_bool (x : List D) : isD "bool" (.tuple x) = some (.bool false) := by simp [isD, tyN, kit_tuple_bool]
@[simp] theorem is_dict_bool (x : List (D × D)) : isD "bool" (.dict x) = some (.bool false) := by simp [isD, tyN, kit_dict_bool]
@[simp] theorem is_NoneType_str : isD "str" .none = some (.bool false) := by simp [isD, tyN, kit_NoneType_str]
@[simp] theorem is_bool_str (b : Bool) : isD "str" (.bool b) = some (.bool false) := by simp [isD, tyN, kit_bool_str]
@[simp] theorem is_int_str (i : Int) : isD "str" (.int i) = some (.bool false) := by simp [isD, tyN, kit_int_str]
@[simp] theorem is_str_str (x : Str) : isD "str" (.str x) = some (.bool true) := by simp [isD, tyN, kit_str_str]
@[simp] theorem is_list_str (x : List D) : isD "str" (.list x) = some (.bool false) := by simp [isD, tyN, kit_list_str]
@[simp] theorem is_tuple_str (x : List D) : isD "str" (.tuple x) = some (.bool false) := by simp [isD, tyN, kit_tuple_str]
@[simp] theorem is_dict_str (x : List (D × D)) : isD "str" (.dict x) = some (.bool false) := by simp [isD, tyN, kit_dict_str]
@[simp] theorem is_NoneType_tuple : isD "tuple" .none = some (.bool false) := by simp [isD, tyN, kit_NoneType_tuple]
@[simp] theorem is_bool_tuple (b : Bool) : isD "tuple" (.bool b) = some (.bool false) := by simp [isD, tyN, kit_bool_tuple]
@[simp] theorem is_int_tuple (i : Int) : isD "tuple" (.int i) = some (.bool false) := by simp [isD, tyN, kit_int_tuple]
@[simp] theorem is_str_tuple (x : Str) : isD "tuple" (.str x) = some (.bool false) := by simp [isD, tyN, kit_str_tuple]
@[simp] theorem is_list_tuple (x : List D) : isD "tuple" (.list x) = some (.bool false) := by simp [isD, tyN, kit_list_tuple]
@[simp] theorem is_tuple_tuple (x : List D) : isD "tuple" (.tuple x) = some (.bool true) := by simp [isD, tyN, kit_tuple_tuple]
@[simp] theorem is_dict_tuple (x : List (D × D)) : isD "tuple" (.dict x) = some (.bool false) := by simp [isD, tyN, kit_dict_tuple]
end KK

namespace KK
open PySem L2 DL

@[simp] theorem e_fAnd (a b : Fx) (ρ : Row) (γ : Bxs) : fAnd a b ρ γ = ((a ρ γ).bind fun p => match p.1 with | .bool true => b p.2.1 p.2.2 | .bool false => some (.bool false, p.2) | _ => none) := rfl
@[simp] theorem e_fOr (a b : Fx) (ρ : Row) (γ : Bxs) : fOr a b ρ γ = ((a ρ γ).bind fun p => match p.1 with | .bool false => b p.2.1 p.2.2 | .bool true => some (.bool true, p.2) | _ => none) := rfl
@[simp] theorem e_fNot (a : Fx) (ρ : Row) (γ : Bxs) : fNot a ρ γ = ((a ρ γ).bind fun p => (notD p.1).map fun z => (z, p.2)) := rfl
@[simp] theorem e_notD (b : Bool) : notD (.bool b) = some (.bool (!b)) := rfl
@[simp] theorem e_eqI (i j : Int) : eqD (.int i) (.int j) = some (.bool (decide (i = j))) := by
  simp only [eqD, PyData.plain, PyData.depth, PyData.eqv]
  rw [if_pos ⟨trivial, trivial, by decide⟩]
  congr 2
@[simp] theorem e_neI (i j : Int) : neD (.int i) (.int j) = some (.bool (!decide (i = j))) := by
  simp only [neD, PyData.plain, PyData.depth, PyData.eqv]
  rw [if_pos ⟨trivial, trivial, by decide⟩]
  congr 2

def isWh : D → Bool
  | .int _ => true
  | _ => false
theorem whole (d : D) (γ : Bxs) : F_is_whole [.d d] γ = some (.d (.bool (isWh d)), γ) := by
  cases d <;> simp [F_is_whole, f_is_whole, List.replicate_succ, isWh]
def isPr : D → Bool
  | .tuple xs => decide (xs.length = 2)
  | _ => false
theorem pair (d : D) (γ : Bxs) : F_is_pair [.d d] γ = some (.d (.bool (isPr d)), γ) := by
  cases d <;> simp [F_is_pair, f_is_pair, List.replicate_succ, isPr]
  omega
def LET : W := [97, 98, 99, 100, 101, 102, 103, 104, 105, 106, 107, 108]
theorem let_eq : ("abcdefghijkl" : Str) = S LET := by decide +kernel
theorem bls_map {α : Type} (f : α → Bool) (xs : List α) : blsOf (xs.map fun x => PyData.bool (f x)) = some (xs.map f) := by
  have := blsOf_map (xs.map f)
  rwa [List.map_map] at this
theorem all_map {α : Type} (f : α → Bool) (xs : List α) : allD [.list (xs.map fun x => PyData.bool (f x))] = some (.bool (xs.all f)) := by
  simp [allD, bls_map]
theorem letters {w : W} (hw : w.length ≤ 1000000) (γ : Bxs) : F_is_letters [.d (.str (S w))] γ = some (.d (.bool (w.all fun c => decide (c ∈ LET))), γ) := by
  have hc := lcL_map (i := 1) (fe := f2 inD (fV 1) (fC (.str "abcdefghijkl"))) (ρ := [.d (.str (S w)), .un]) (γ := γ) rfl (fun c => .str (S [c])) (fun c => .bool (decide (c ∈ LET))) w (fun c _ => by simp [let_eq, inD]) (by rw [sizeLine_eq]; omega)
  simp [F_is_letters, f_is_letters, List.replicate_succ, qLc, iE, itemsD, unS, hc, all_map]
theorem letters_no (d : D) (h : ∀ x, d ≠ .str x) (γ : Bxs) : F_is_letters [.d d] γ = some (.d (.bool false), γ) := by
  cases d with
  | str x => exact absurd rfl (h x)
  | _ => simp [F_is_letters, f_is_letters, List.replicate_succ]
theorem word {w : W} (hw : w.length ≤ 100000) (h : ∀ c ∈ w, c ∈ LET) (γ : Bxs) : F_is_word [.d (.str (S w))] γ = some (.d (.bool true), γ) := by
  have hl := letters (w := w) (by omega) γ
  have e : (w.all fun c => decide (c ∈ LET)) = true := by simpa using h
  rw [e] at hl
  have hz : w.length ≤ sizeLine := by rw [sizeLine_eq]; omega
  have : (w.length : Int) ≤ 100000 := by omega
  simp [F_is_word, f_is_word, List.replicate_succ, e_lenS w hz, hl, this]
theorem share {x : Fr} (h : Sh x) (h2 : x.2 < LM) (γ : Bxs) : F_is_share [.d (eSh x)] γ = some (.d (.bool true), γ) := by
  have p1 : (1 : Int) ≤ x.1 := by have := h.h1; omega
  have p2 : (1 : Int) ≤ x.2 := by have := h.h2; omega
  have hc : lcL [1] (gN 1) fYes (fAnd (fQ (qCall F_is_whole (aE (fV 1) aNil))) (f2 geD (fV 1) (fC (.int 1)))) [.int x.1, .int x.2] [] [.d (.tuple [.int x.1, .int x.2]), .un] γ = some ([.bool true, .bool true], [.d (.tuple [.int x.1, .int x.2]), .un], γ) := by
    have := lcL_map (i := 1) (fe := fAnd (fQ (qCall F_is_whole (aE (fV 1) aNil))) (f2 geD (fV 1) (fC (.int 1)))) (ρ := [.d (.tuple [.int x.1, .int x.2]), .un]) (γ := γ) rfl PyData.int (fun _ => .bool true) [(x.1 : Int), (x.2 : Int)] (fun i hi => by
      have : 1 ≤ i := by
        simp at hi
        rcases hi with z | z <;> omega
      simp [whole, isWh, this]) (by show (2 : Nat) ≤ sizeLine; decide)
    exact this
  have ha : allD [.list [.bool true, .bool true]] = some (.bool true) := by simp [allD, blsOf, blOf]
  have hd : x.2 < 2 ^ 3999 := p400 h2
  simp [F_is_share, f_is_share, List.replicate_succ, eSh, pair, isPr, qLc, iE, itemsD, unS, hc, ha, divisor_of _ _ hd, h.co]
theorem move {n : Nat} {p : W} (h : IsP n p) (h1 : 1 ≤ n) (h5 : n ≤ 5) (γ : Bxs) : F_is_move [.d (eMv p)] γ = some (.d (.bool true), γ) := by
  have hl := h.len
  have hc := lcL_map (i := 1) (fe := fQ (qCall F_is_whole (aE (fV 1) aNil))) (ρ := [.d (.tuple (p.map iD)), .un]) (γ := γ) rfl iD (fun _ => .bool true) p (fun i _ => by simp [whole, isWh, iD]) (sz5 (by omega))
  have ha := all_map (fun _ : Nat => true) p
  have e1 : (p.all fun _ => true) = true := by simp
  rw [e1] at ha
  have hs : srtI (p.map fun i : Nat => (i : Int)) = (List.range n).map fun i : Nat => (i : Int) := by
    refine (srt_uniq (List.Perm.map _ h.symm) ?_).symm
    rw [List.pairwise_map]
    exact List.pairwise_lt_range.imp fun hab => by omega
  have b1 : (1 : Int) ≤ p.length := by omega
  have b2 : (p.length : Int) ≤ 5 := by omega
  have hr : rgOk 0 (p.length : Int) = true := by
    unfold rgOk
    simp only [Bool.and_eq_true, decide_eq_true_eq]
    exact ⟨⟨inB_iff.mpr (by omega), inB_iff.mpr (by omega)⟩, by omega⟩
  have hg : rgDs 0 (p.length : Int) = ((List.range n).map fun i : Nat => (i : Int)).map PyData.int := by
    unfold rgDs
    rw [List.map_map]
    simp [hl]
  have hi : intsOf (p.map iD) = some (p.map fun i : Nat => (i : Int)) := ints_iD p
  have he := e_eqLI ((List.range n).map fun i : Nat => (i : Int)) ((List.range n).map fun i : Nat => (i : Int))
  simp only [decide_true, List.map_map] at he
  simp [F_is_move, f_is_move, List.replicate_succ, eMv, fChain, b1, b2, qLc, iE, itemsD, unS, hc, ha, qSrt, hi, hs, qLR, fR1, intOf, hr, hg, he]
end KK

namespace KK
open PySem L2 DL

def isTu : D → Bool
  | .tuple _ => true
  | _ => false
def tlen : D → Int
  | .tuple xs => xs.length
  | _ => 0
theorem cnt_one {n : Int} : ∀ {l : List Int}, (∀ x ∈ l, x = n) → cnt l ≤ 1
  | [], _ => by simp [cnt]
  | [x], _ => by simp [cnt]
  | x :: y :: l, h => by
    have h1 : x = y := (h x (by simp)).trans (h y (by simp)).symm
    have h2 : x ∈ y :: l := by rw [h1]; simp
    have := cnt_one (l := y :: l) fun z hz => h z (List.mem_cons_of_mem _ hz)
    rw [cnt, if_pos h2]
    exact this
theorem ints_map {α : Type} (f : α → Int) (xs : List α) : intsOf (xs.map fun x => PyData.int (f x)) = some (xs.map f) := by
  have := intsOf_map (xs.map f)
  rwa [List.map_map] at this
theorem of_size {vals : D} {ds : List D} (hi : itemsD vals = some ds) {n : Nat} (h : ∀ d ∈ ds, (∀ xs, d ≠ .tuple xs) ∨ ∃ xs, d = .tuple xs ∧ xs.length = n) (hz : ds.length ≤ 1000) (γ : Bxs) :
    F_are_of_size [.d vals] γ = some (.d (.bool true), γ) := by
  have hc := lcL_pure (i := 2) (ft := fTru (f1 (isD "tuple") (fV 2))) (fe := fS lenD (fCons (fV 2) fNil)) (ρ := [.d vals, .un, .un]) (γ := γ) rfl isTu (fun d => .int (tlen d)) ds [] (fun d _ => by
    cases d <;> simp [isTu, tlen]) (by simpa using sz5 hz)
  have h2 : cnt ((ds.filter isTu).map tlen).reverse ≤ 1 := cnt_one (n := n) fun x hx => by
    simp only [List.mem_reverse, List.mem_map, List.mem_filter] at hx
    obtain ⟨d, ⟨hd, ht⟩, e⟩ := hx
    rcases h d hd with z | ⟨xs, e1, e2⟩
    · cases d <;> simp [isTu] at ht
      exact absurd rfl (z _)
    · subst e1
      rw [← e, ← e2]; rfl
  have h3 : ((ds.filter isTu).map tlen).length + 1 < scanBound := by
    have := List.length_filter_le isTu ds
    rw [List.length_map]
    have : scanBound = 4096 := rfl
    omega
  have h4 : ((cnt ((ds.filter isTu).map tlen).reverse : Nat) : Int) ≤ 1 := by omega
  simp only [List.nil_append] at hc
  simp only [List.length_map] at h3
  simp [F_are_of_size, f_are_of_size, List.replicate_succ, sSizes, iE, hi, unS, hc, ints_map, h3, h4]
theorem req_values {kd : Str} {vals : D} {ds : List D} (hi : itemsD vals = some ds) (γ : Bxs) (hv : ∀ d ∈ ds, F_is_value_in [.d (.str kd), .d d] γ = some (.d (.bool true), γ))
    (hw : kd = "words" → ∀ d ∈ ds, F_is_word [.d d] γ = some (.d (.bool true), γ)) (hs : F_are_of_size [.d vals] γ = some (.d (.bool true), γ)) : F_require_values [.d (.str kd), .d vals] γ = some (.d .none, γ) := by
  obtain ⟨ρ', γ', e, s, rfl, rfl⟩ := forL_inv (i := 2) (fb := sIf (fOrT (fNotT (fTru (fQ (qCall F_is_value_in (aE (fV 0) (aE (fV 2) aNil)))))) (fAndT (fBl (f2 eqD (fV 0) (fC (.str "words")))) (fNotT (fTru (fQ (qCall F_is_word (aE (fV 2) aNil))))))) (fun _ _ => none) sNext)
    (fun k ρ γ' => ∃ s, ρ = [.d (.str kd), .d vals, s] ∧ γ' = γ) ds 0 [.d (.str kd), .d vals, .un] γ (fun j d ρ γ' hj ⟨s, e1, e2⟩ => by
      subst e1 e2
      have hm := List.mem_of_getElem? hj
      have h1 := hv d hm
      by_cases hk : kd = "words"
      · have h2 := hw hk d hm
        refine ⟨[.d (.str kd), .d vals, .d d], γ', ?_, _, rfl, rfl⟩
        subst hk
        simp [h1, h2]
      · exact ⟨[.d (.str kd), .d vals, .d d], γ', by simp [h1, hk], _, rfl, rfl⟩) ⟨_, rfl, rfl⟩
  simp [F_require_values, f_require_values, List.replicate_succ, sFor, iE, hi, e, hs]
theorem req_kind {kd : Str} (h : kd = "words" ∨ kd = "sums" ∨ kd = "shares" ∨ kd = "moves") (γ : Bxs) : F_require_kind [.d (.str kd)] γ = some (.d .none, γ) := by
  rcases h with rfl | rfl | rfl | rfl <;> simp [F_require_kind, f_require_kind, List.replicate_succ, notInD]

end KK

namespace KK
open PySem L2 DL

theorem erase_perm {α : Type} : ∀ {l : List α} {i : Nat} {a : α}, l[i]? = some a → (a :: l.eraseIdx i).Perm l
  | [], i, a, h => by simp at h
  | x :: l, 0, a, h => by simp at h; subst h; exact .refl _
  | x :: l, i + 1, a, h => by
    have := erase_perm (l := l) (i := i) (a := a) (by simpa using h)
    exact (List.Perm.swap x a _).trans (this.cons x)
theorem mixed {n : Nat} {γ : Bxs} {xs : List D} (h : Dc n γ) (hn : n ≤ 900000) (hl : xs.length ≤ 1000) : ∃ ys γ', F__law_mixed [.bx 0, .d (.list xs)] γ = some (.ol ys, γ') ∧ ys.Perm xs ∧ Dc (n + xs.length) γ' := by
  have hr : range1D [.int (xs.length : Int)] = some ((List.range xs.length).map iD) := rg_iD _ hl
  have z : (0 : Nat) ≤ sizeLine := Nat.zero_le _
  obtain ⟨ρ', γ', e, left, found, s, rfl, p1, p2, p3, d⟩ := forL_inv (i := 4) (fb := sApp 3 (fPopAt 2 (fQ (qCall F__law_roll (aB 0 (aE (fLenO 2) aNil))))))
    (fun k ρ γ => ∃ left found s, ρ = [.bx 0, .d (.list xs), .ol left, .ol found, s] ∧ (found ++ left).Perm xs ∧ left.length = xs.length - k ∧ found.length = k ∧ Dc (n + k) γ) ((List.range xs.length).map iD) 0 [.bx 0, .d (.list xs), .ol xs, .ol [], .un] γ
    (fun j d ρ γ hj ⟨left, found, s, e1, p1, p2, p3, dc⟩ => by
      subst e1
      have hjr : j < xs.length := by
        have := (List.getElem?_eq_some_iff.mp hj).1
        simpa using this
      obtain ⟨r, γ2, e2, r0, r1, d2⟩ := roll dc (by omega) (t := left.length) (by omega) (by omega)
      have hr : r.toNat < left.length := by omega
      obtain ⟨v, hv⟩ : ∃ v, left[r.toNat]? = some v := ⟨_, List.getElem?_eq_getElem hr⟩
      have hb : inB 9223372036854775808 r = true := inB_iff.mpr (by omega)
      have hi : ixN left.length r = some r.toNat := by simp [ixN, r0]; omega
      have hz : found.length < sizeLine := by rw [sizeLine_eq]; omega
      refine ⟨[.bx 0, .d (.list xs), .ol (left.eraseIdx r.toNat), .ol (found ++ [v]), .d d], γ2, ?_, _, _, _, rfl, ?_, ?_, by simp; omega, d2⟩
      · simp [sApp, fPopAt, ctO, putO, fLenO, aB, e2, intOf, hb, hi, hv, hz]
      · refine List.Perm.trans ?_ p1
        rw [List.append_assoc]
        exact List.Perm.append_left found (erase_perm hv)
      · rw [List.length_eraseIdx_of_lt hr]; omega) ⟨xs, [], .un, rfl, .refl _, by simp, rfl, h⟩
  simp only [Nat.zero_add, List.length_map, List.length_range] at p2 p3 d
  have hle : left = [] := List.eq_nil_of_length_eq_zero (by omega)
  subst hle
  rw [List.append_nil] at p1
  exact ⟨found, γ', by simp [F__law_mixed, f__law_mixed, List.replicate_succ, qList, sFor, iR, hr, e, sRetO, z], p1, d⟩
theorem perm_iD {n : Nat} {ys : List D} (h : ys.Perm ((List.range n).map iD)) : ∃ p, ys = p.map iD ∧ IsP n p := by
  refine ⟨ys.map fun d => match d with | .int i => i.toNat | _ => 0, ?_, ?_⟩
  · rw [List.map_map]
    conv => lhs; rw [← List.map_id ys]
    apply List.map_congr_left
    intro d hd
    obtain ⟨i, _, rfl⟩ := List.mem_map.mp (h.mem_iff.mp hd)
    simp [iD]
  · have := List.Perm.map (fun d : D => match d with | .int i => i.toNat | _ => 0) h
    rw [List.map_map] at this
    unfold IsP
    refine this.trans ?_
    have e : (List.range n).map ((fun d : D => match d with | .int i => i.toNat | _ => 0) ∘ iD) = List.range n := by
      conv => rhs; rw [← List.map_id (List.range n)]
      apply List.map_congr_left
      intro i _
      simp [iD]
    rw [e]
theorem lback_mv {n : Nat} {p : W} (h : IsP n p) (hn : n ≤ 1000) (γ : Bxs) : F__law_back [.d (.str "moves"), .d (eMv p)] γ = some (.d (eMv (mvInv p)), γ) := by
  have hl := h.len
  have hr : range1D [.int (p.length : Int)] = some ((List.range p.length).map iD) := rg_iD _ (by omega)
  obtain ⟨ρ', γ', e, l, s, rfl, l1, l2, rfl⟩ := forL_inv (i := 3) (fb := sSetO 2 (fV 3) (f2 ixD (fV 1) (fV 3)))
    (fun k ρ γ' => ∃ l s, ρ = [.d (.str "moves"), .d (.tuple (p.map iD)), .ol l, s] ∧ l.length = n ∧ (∀ i j, p[j]? = some i → j < k → l[i]? = some (iD j)) ∧ γ' = γ) ((List.range p.length).map iD) 0 [.d (.str "moves"), .d (.tuple (p.map iD)), .ol (List.replicate p.length (.int 0)), .un] γ
    (fun j d ρ γ' hj ⟨l, s, e1, l1, l2, e2⟩ => by
      subst e1 e2
      have hjr : j < p.length := by
        have := (List.getElem?_eq_some_iff.mp hj).1
        simpa using this
      have hd : d = iD j := by
        simp [hjr] at hj
        exact hj.symm
      subst hd
      have hm : p.getD j 0 < n := h.mem.mp (by rw [show p.getD j 0 = p[j] by simp [hjr]]; exact List.getElem_mem hjr)
      have hx := ix_iD (b := p) hjr
      have hi : ixN l.length ((p.getD j 0 : Nat) : Int) = some (p.getD j 0) := by simp only [ixN]; rw [if_pos (by omega), if_pos (by omega)]; simp
      refine ⟨[.d (.str "moves"), .d (.tuple (p.map iD)), .ol (l.set (p.getD j 0) (iD j)), .d (iD j)], γ', ?_, _, _, rfl, by simp [l1], fun i q hq hlt => ?_, rfl⟩
      · simp only [iD] at hi hx
        simp [sSetO, ctO, putO, hx, intOf, iD] at hi ⊢
        simp [hi]
      · by_cases e : q = j
        · subst e
          have : p.getD q 0 = i := by simp [List.getD_eq_getElem?_getD, hq]
          rw [this, List.getElem?_set_self (by rw [l1]; rw [← this]; exact hm)]
        · have hne : p.getD j 0 ≠ i := fun z => e (nd_get h.nd hq (by rw [← z, List.getD_eq_getElem?_getD, List.getElem?_eq_getElem hjr]; rfl))
          rw [List.getElem?_set_ne hne]
          exact l2 i q hq (by omega)) ⟨_, _, rfl, by simp [hl], fun i j _ z => absurd z (Nat.not_lt_zero _), rfl⟩
  have hle : l = (mvInv p).map iD := by
    apply List.ext_getElem?
    intro i
    by_cases hi : i < n
    · have hm : i ∈ p := h.mem.mpr hi
      have := l2 i (p.idxOf i) (get_idx? hm) (by simp; exact List.idxOf_lt_length_of_mem hm)
      rw [this]
      simp [mvInv, hl, hi]
    · rw [List.getElem?_eq_none (by omega), List.getElem?_eq_none (by simp [mvInv]; omega)]
  have hz1 : (1 : Nat) ≤ sizeLine := by decide
  have hb : inB 9223372036854775808 (p.length : Int) = true := inB_iff.mpr (by omega)
  have hz : p.length ≤ sizeLine := sz5 (by omega)
  have hrep : (List.replicate p.length [PyData.int 0]).flatten = List.replicate p.length (PyData.int 0) := by
    generalize p.length = m
    induction m with
    | zero => rfl
    | succ m ih => rw [List.replicate_succ, List.flatten_cons, ih, List.replicate_succ]; rfl
  subst hle
  simp [F__law_back, f__law_back, List.replicate_succ, eMv, qRep, hz1, hb, hz, hrep, sFor, iR, hr, e, sFz, fzS]
end KK

namespace KK
open PySem L2 DL

def tp : Bxs → Int
  | [.int a :: _] => a
  | _ => 0
theorem Dc.tp0 {n : Nat} {γ : Bxs} (h : Dc n γ) : 0 ≤ tp γ ∧ tp γ < 10 ^ 120 := by
  obtain ⟨a, b, c, rfl, a0, a1, _⟩ := h
  exact ⟨a0, a1⟩
theorem pot {a t : Int} (ha : 0 ≤ a) (ht : 0 < t) : (1 + a % t) * (1 + a / t) ≤ 1 + a := by
  have h1 := Int.emod_add_mul_ediv a t
  have h2 := Int.emod_lt_of_pos a ht
  have h3 := Int.emod_nonneg a (show t ≠ 0 by omega)
  have h4 := Int.ediv_nonneg ha (show 0 ≤ t by omega)
  generalize a % t = r at *
  generalize a / t = q at *
  have h5 : (1 + r) * q ≤ t * q := Int.mul_le_mul_of_nonneg_right (by omega) h4
  rw [Int.add_mul, Int.one_mul] at h5
  rw [Int.add_mul, Int.mul_add, Int.mul_one, Int.one_mul, Int.mul_add, Int.mul_one]
  omega
/-- a roll, and what it takes of the dice -/
theorem rollp {n : Nat} {γ : Bxs} {t : Int} (h : Dc n γ) (hn : n ≤ 1000000) (ht : 0 < t) (ht2 : t < 10 ^ 100) :
    ∃ (r : Int) (γ' : Bxs), F__law_roll [.bx 0, .d (.int t)] γ = some (.d (.int r), γ') ∧ 0 ≤ r ∧ r < t ∧ Dc (n + 1) γ' ∧ (1 + r) * (1 + tp γ') ≤ 2 ^ 70 * (1 + tp γ) := by
  obtain ⟨r, γ', e, r0, r1, d⟩ := roll h hn ht ht2
  refine ⟨r, γ', e, r0, r1, d, ?_⟩
  obtain ⟨a, b, c, rfl, a0, a1, b0, b1, c0, c1⟩ := h
  have tt : t.natAbs < 2 ^ 4000 := sm (by omega) (by omega)
  by_cases ha : 0 < a
  · have e2 : F__law_roll [.bx 0, .d (.int t)] [[.int a, .int b, .int c]] = some (.d (.int (a % t)), [[.int (a / t), .int b, .int c]]) := by
      simp [F__law_roll, f__law_roll, List.replicate_succ, fIxO, sSetO, ctO, putO, ixD, atI, ixN, ha, modD_ok ht, fdivD_ok ht tt, intOf]
    rw [e] at e2
    cases e2
    have := pot a0 ht
    simp only [tp]
    generalize (1 + a % t) * (1 + a / t) = z at *
    omega
  · have m1 : mulD (.int 49979687) (.int (c + 1)) = some (.int (49979687 * (c + 1))) := mulD_ok (by decide) (sm (by omega) (by omega))
    generalize hx : (b + 49979687 * (c + 1)) % 2305843009213693907 = x
    have x0 : 0 ≤ x := by rw [← hx]; exact Int.emod_nonneg _ (by decide)
    have x1 : x < 2305843009213693907 := by rw [← hx]; exact Int.emod_lt_of_pos _ (by decide)
    have m2 : mulD (.int x) (.int x) = some (.int (x * x)) := mulD_ok (sm (by omega) (by omega)) (sm (by omega) (by omega))
    have m3 : mulD (.int 97) (.int (c + 1)) = some (.int (97 * (c + 1))) := mulD_ok (by decide) (sm (by omega) (by omega))
    generalize hy : (x * x + 97 * (c + 1)) % 2305843009213693921 = y
    have y0 : 0 ≤ y := by rw [← hy]; exact Int.emod_nonneg _ (by decide)
    have y1 : y < 2305843009213693921 := by rw [← hy]; exact Int.emod_lt_of_pos _ (by decide)
    have m4 : mulD (.int y) (.int 7368791) = some (.int (y * 7368791)) := mulD_ok (sm (by omega) (by omega)) (by decide)
    have d1 : ∀ i : Int, fdivD (.int i) (.int 65536) = some (.int (i / 65536)) := fun i => fdivD_ok (by decide) (by decide)
    have q1 : ∀ i : Int, modD (.int i) (.int 2305843009213693907) = some (.int (i % 2305843009213693907)) := fun i => modD_ok (by decide)
    have q2 : ∀ i : Int, modD (.int i) (.int 2305843009213693921) = some (.int (i % 2305843009213693921)) := fun i => modD_ok (by decide)
    have e2 : F__law_roll [.bx 0, .d (.int t)] [[.int a, .int b, .int c]] = some (.d (.int ((y * 7368791 + x) / 65536 % t)), [[.int a, .int b, .int (c + 1)]]) := by
      simp [F__law_roll, f__law_roll, List.replicate_succ, fIxO, sSetO, ctO, putO, ixD, atI, ixN, ha, modD_ok ht, q1, q2, d1, intOf, m1, m3, hx, m2, hy, m4]
    rw [e] at e2
    cases e2
    simp only [tp]
    have hz : (y * 7368791 + x) / 65536 % t ≤ (y * 7368791 + x) / 65536 := by
      have h1 := Int.emod_add_mul_ediv ((y * 7368791 + x) / 65536) t
      have h4 := Int.ediv_nonneg (a := (y * 7368791 + x) / 65536) (b := t) (by omega) (by omega)
      have h5 := Int.mul_nonneg (show 0 ≤ t by omega) h4
      omega
    refine Int.mul_le_mul_of_nonneg_right ?_ (by omega)
    omega
/-- so many pairs of draws -/
theorem sz2 : (2 : Nat) ≤ sizeLine := by decide
end KK

namespace KK
open PySem L2 DL

theorem sIx_pos {n d m : Nat} (h : m ≤ n) : HT.sIx n d (some (m : Int)) = m := by
  rw [HT.sIx_nat]; omega
theorem e_sla {ds : List D} {l : Nat} (h : l ≤ ds.length) : slD (.tuple ds) (some (l : Int)) none = some (.tuple (ds.drop l)) := by
  simp only [slD, cutD, sIx_pos h, HT.sIx_none]
  rw [List.take_of_length_le]; simp
theorem e_slb {ds : List D} {l : Nat} (h : l ≤ ds.length) : slD (.tuple ds) none (some (l : Int)) = some (.tuple (ds.take l)) := by
  simp only [slD, cutD, sIx_pos h, HT.sIx_none]
  rfl
theorem neD_of {a b : D} {v : Bool} (h : eqD a b = some (.bool v)) : neD a b = some (.bool (!v)) := by
  simp only [eqD] at h
  simp only [neD]
  split at h
  · rename_i hc
    rw [if_pos hc]
    cases h
    rfl
  · cases h
theorem plAll : ∀ {ds : List D}, (∀ d ∈ ds, d.plain = true ∧ d.depth ≤ 3) → PyData.plainAll ds = true ∧ PyData.depthAll ds ≤ 3
  | [], _ => ⟨rfl, by show (0 : Nat) ≤ 3; decide⟩
  | d :: ds, h => by
    have h1 := h d List.mem_cons_self
    have h2 := plAll (ds := ds) fun e he => h e (List.mem_cons_of_mem _ he)
    refine ⟨by simp [PyData.plainAll, h1.1, h2.1], ?_⟩
    simp only [PyData.depthAll]
    omega
theorem eqNil {d : D} {ds : List D} (h : ∀ e ∈ d :: ds, e.plain = true ∧ e.depth ≤ 3) : eqD (.tuple (d :: ds)) (.tuple []) = some (.bool false) := by
  have h2 := plAll h
  simp only [eqD]
  rw [if_pos ⟨by simp only [PyData.plain]; exact h2.1, rfl, by simp only [PyData.depth]; omega⟩]
  rfl
@[simp] theorem e_isNB (a b : Bool) : isNBD (.bool a) (.bool b) = some (.bool (!decide (a = b))) := rfl
theorem e_eqL0 : eqD (.list []) (.list []) = some (.bool true) := by
  simp only [eqD]
  rw [if_pos ⟨rfl, rfl, by decide⟩]
  rfl
theorem e_neL0 : neD (.list []) (.list []) = some (.bool false) := neD_of e_eqL0

def Bds {G : Type} (bd : Nat → G → Prop) : List G → Nat → Prop
  | [], _ => True
  | v :: vs, n => ∃ m, m ≤ n ∧ bd m v ∧ Bds bd vs (n - m)
theorem Bds.mono {G : Type} {bd : Nat → G → Prop} : ∀ {vs : List G} {n k : Nat}, Bds bd vs n → n ≤ k → Bds bd vs k
  | [], _, _, _, _ => trivial
  | v :: vs, n, k, ⟨m, h1, h2, h3⟩, e => ⟨m, by omega, h2, h3.mono (by omega)⟩
theorem Bds.one {G : Type} {bd : Nat → G → Prop} : ∀ {vs : List G}, (∀ v ∈ vs, bd 1 v) → Bds bd vs vs.length
  | [], _ => trivial
  | v :: vs, h => ⟨1, by simp, h v List.mem_cons_self, by
    have := Bds.one (vs := vs) fun w hw => h w (List.mem_cons_of_mem _ hw)
    simpa using this⟩
theorem Bds.take {G : Type} {bd : Nat → G → Prop} : ∀ {vs : List G} {n : Nat} (i : Nat), Bds bd vs n → Bds bd (vs.take i) n
  | [], _, i, _ => by rw [List.take_nil]; trivial
  | v :: vs, n, 0, _ => trivial
  | v :: vs, n, i + 1, ⟨m, h1, h2, h3⟩ => ⟨m, h1, h2, h3.take i⟩
theorem Bds.drop {G : Type} {bd : Nat → G → Prop} : ∀ {vs : List G} {n : Nat} (i : Nat), Bds bd vs n → Bds bd (vs.drop i) n
  | [], _, i, _ => by rw [List.drop_nil]; trivial
  | v :: vs, n, 0, h => h
  | v :: vs, n, i + 1, ⟨m, h1, h2, h3⟩ => by
    rw [List.drop_succ_cons]
    exact (h3.drop i).mono (by omega)
theorem Bds.mem {G : Type} {bd : Nat → G → Prop} (w : ∀ a m k, bd m a → m ≤ k → bd k a) : ∀ {vs : List G} {n : Nat}, Bds bd vs n → ∀ v ∈ vs, bd n v
  | v :: vs, n, ⟨m, h1, h2, h3⟩, x, hx => by
    rcases List.mem_cons.mp hx with rfl | hx
    · exact w _ _ _ h2 h1
    · exact w _ _ _ (Bds.mem w h3 x hx) (by omega)

structure MK (kd : Str) (size most : Int) (G : Type) where
  enc : G → D
  ok : G → Prop
  bd : Nat → G → Prop
  mul : G → G → G
  one : G
  n0 : Nat
  okm : ∀ {a b}, ok a → ok b → ok (mul a b)
  ok1 : ok one
  assoc : ∀ {a b c}, ok a → ok b → ok c → mul (mul a b) c = mul a (mul b c)
  onem : ∀ {a}, ok a → mul one a = a
  mone : ∀ {a}, ok a → mul a one = a
  kk : kd = "words" ∨ kd = "sums" ∨ kd = "shares" ∨ kd = "moves"
  bdm : ∀ {a b m k}, ok a → ok b → bd m a → bd k b → bd (m + k) (mul a b)
  bdw : ∀ {a m k}, bd m a → m ≤ k → bd k a
  bd1 : bd 0 one
  val : ∀ {a}, ok a → bd 3200 a → ∀ γ, F_is_value_in [.d (.str kd), .d (enc a)] γ = some (.d (.bool true), γ)
  wrd : kd = "words" → ∀ {a}, ok a → bd 3200 a → ∀ γ, F_is_word [.d (enc a)] γ = some (.d (.bool true), γ)
  siz : ∀ {a}, ok a → (∀ xs, enc a ≠ .tuple xs) ∨ ∃ xs, enc a = .tuple xs ∧ xs.length = n0
  prF : ∀ {v vs}, ok v → (∀ a ∈ vs, ok a) → vs.length ≤ 10 → Bds bd (v :: vs) 3200 → ∀ γ, F_product_of [.d (.str kd), .d (.tuple (enc v :: vs.map enc))] γ = some (.d (enc (vs.foldl mul v)), γ)
  timF : ∀ {a b m k}, ok a → ok b → bd m a → bd k b → m + k ≤ 3200 → ∀ γ, F__law_times [.d (.str kd), .d (enc a), .d (enc b)] γ = some (.d (enc (mul a b)), γ)
  unF : ∀ {a}, ok a → ∀ γ, F_unit_of [.d (.str kd), .d (enc a)] γ = some (.d (enc one), γ)
  uniF : ∀ γ, F__law_unit [.d (.str kd), .d (.int size)] γ = some (.d (enc one), γ)
  pl : ∀ {a}, ok a → (enc a).plain = true ∧ (enc a).depth ≤ 3
  rep : ∀ {a}, ok a → bd 1500 a → ∃ s, reprD [enc a] = some (.str s)
  draws : ∀ {n γ} (k : Nat), k ≤ 7 → Dc n γ → n ≤ 700000 → ∃ vs γ', lcL [5] (gN 5) fYes (fQ (qCall F__law_value_drawn (aB 0 (aE (fV 1) (aE (fV 2) (aE (fV 3) aNil)))))) ((List.range k).map iD) [] [.bx 0, .d (.str kd), .d (.int size), .d (.int most), .un, .un, .un, .un, .un, .un, .un] γ
    = some (vs.map enc, [.bx 0, .d (.str kd), .d (.int size), .d (.int most), .un, .un, .un, .un, .un, .un, .un], γ') ∧ vs.length = k ∧ (∀ v ∈ vs, ok v) ∧ Bds bd vs 1500 ∧ Dc (n + 20 * k) γ'
/-- the inverses -/
structure MI {kd : Str} {size most : Int} {G : Type} (g : MK kd size most G) where
  inv : G → G
  kw : ¬ kd = "words"
  oki : ∀ {a}, g.ok a → g.ok (inv a)
  bdi : ∀ {a m}, g.ok a → g.bd m a → g.bd m (inv a)
  invm : ∀ {a}, g.ok a → g.mul (inv a) a = g.one
  minv : ∀ {a}, g.ok a → g.mul a (inv a) = g.one
  inv2 : ∀ {a}, g.ok a → inv (inv a) = a
  invF : ∀ {a}, g.ok a → g.bd 1600 a → ∀ γ, F_taken_back [.d (.str kd), .d (g.enc a)] γ = some (.d (g.enc (inv a)), γ)
  lbF : ∀ {a}, g.ok a → g.bd 1600 a → ∀ γ, F__law_back [.d (.str kd), .d (g.enc a)] γ = some (.d (g.enc (inv a)), γ)

section
variable {kd : Str} {size most : Int} {G : Type} (g : MK kd size most G)
theorem MK.eqT {a : G} (h : g.ok a) : eqD (g.enc a) (g.enc a) = some (.bool true) := by
  have := g.pl h
  simp only [eqD]
  rw [if_pos ⟨this.1, this.1, by omega⟩]
  rw [SeqAt.eqv_refl_plain _ this.1]
theorem MK.neT {a : G} (h : g.ok a) : neD (g.enc a) (g.enc a) = some (.bool false) := neD_of (g.eqT h)
theorem MK.fold_ok : ∀ {vs : List G} {a : G}, g.ok a → (∀ v ∈ vs, g.ok v) → g.ok (vs.foldl g.mul a)
  | [], _, h, _ => h
  | v :: vs, a, h, hv => MK.fold_ok (vs := vs) (g.okm h (hv v List.mem_cons_self)) fun w hw => hv w (List.mem_cons_of_mem _ hw)
theorem MK.fold_bd : ∀ {vs : List G} {a : G} {m n : Nat}, g.ok a → (∀ v ∈ vs, g.ok v) → g.bd m a → Bds g.bd vs n → g.bd (m + n) (vs.foldl g.mul a)
  | [], _, _, _, _, _, h, _ => g.bdw h (by omega)
  | v :: vs, a, m, n, h, hv, hb, ⟨k, h1, h2, h3⟩ => by
    have hk := hv v List.mem_cons_self
    have := MK.fold_bd (vs := vs) (g.okm h hk) (fun w hw => hv w (List.mem_cons_of_mem _ hw)) (g.bdm h hk hb h2) h3
    exact g.bdw this (by omega)
theorem MK.fold_mul : ∀ {vs : List G} {a b : G}, g.ok a → g.ok b → (∀ v ∈ vs, g.ok v) → vs.foldl g.mul (g.mul a b) = g.mul a (vs.foldl g.mul b)
  | [], _, _, _, _, _ => rfl
  | v :: vs, a, b, ha, hb, hv => by
    have hk := hv v List.mem_cons_self
    rw [List.foldl_cons, g.assoc ha hb hk]
    exact MK.fold_mul (vs := vs) ha (g.okm hb hk) fun w hw => hv w (List.mem_cons_of_mem _ hw)
theorem MK.sizes {ds : List G} {vals : D} (hi : itemsD vals = some (ds.map g.enc)) (h : ∀ a ∈ ds, g.ok a) (hz : ds.length ≤ 1000) (γ : Bxs) : F_are_of_size [.d vals] γ = some (.d (.bool true), γ) :=
  of_size hi (n := g.n0) (fun d hd => by
    obtain ⟨a, ha, rfl⟩ := List.mem_map.mp hd
    exact g.siz (h a ha)) (by simpa using hz) γ
theorem MK.vals {ds : List G} {vals : D} (hi : itemsD vals = some (ds.map g.enc)) (h : ∀ a ∈ ds, g.ok a ∧ g.bd 3200 a) (hz : ds.length ≤ 1000) (γ : Bxs) : F_require_values [.d (.str kd), .d vals] γ = some (.d .none, γ) :=
  req_values hi γ (fun d hd => by
    obtain ⟨a, ha, rfl⟩ := List.mem_map.mp hd
    exact g.val (h a ha).1 (h a ha).2 γ) (fun z d hd => by
    obtain ⟨a, ha, rfl⟩ := List.mem_map.mp hd
    exact g.wrd z (h a ha).1 (h a ha).2 γ) (g.sizes hi (fun a ha => (h a ha).1) hz γ)
theorem MK.isv {a : G} (h : g.ok a) (hb : g.bd 3200 a) (γ : Bxs) : F_is_value [.d (.str kd), .d (g.enc a)] γ = some (.d (.bool true), γ) := by
  by_cases e : kd = "words"
  · have hw := g.wrd e h hb γ
    have hv := g.val h hb γ
    have hk := req_kind g.kk γ
    subst e
    simp [F_is_value, f_is_value, List.replicate_succ, hk, hv, hw]
  · have e' : (kd == "words") = false := by simpa using e
    simp [F_is_value, f_is_value, List.replicate_succ, req_kind g.kk, g.val h hb, e']
theorem MK.ul {a : G} (h : g.ok a) (hb : g.bd 3200 a) (γ : Bxs) : F_unit_like [.d (.str kd), .d (g.enc a)] γ = some (.d (g.enc g.one), γ) := by
  have hv := g.vals (vals := .list [g.enc a]) (ds := [a]) rfl (by simp [h, hb]) (by simp) γ
  have z1 : (1 : Nat) ≤ sizeLine := by decide
  simp [F_unit_like, f_unit_like, List.replicate_succ, req_kind g.kk, hv, g.unF h, z1]
theorem MK.pr2 {x y : G} {a b : Nat} (hx : g.ok x) (hy : g.ok y) (bx : g.bd a x) (bY : g.bd b y) (hs : a + b ≤ 3200) (γ : Bxs) : F_product_of [.d (.str kd), .d (.tuple [g.enc x, g.enc y])] γ = some (.d (g.enc (g.mul x y)), γ) :=
  g.prF (v := x) (vs := [y]) hx (by simpa using hy) (by simp) ⟨a, by omega, bx, b, by omega, bY, trivial⟩ γ
/-- the product by the law -/
theorem MK.lawP {vs : List G} (h : ∀ v ∈ vs, g.ok v) (hb : Bds g.bd vs 1500) (hz : vs.length ≤ 1000) (γ : Bxs) : F__law_product [.d (.str kd), .d (.tuple (vs.map g.enc)), .d (.int size)] γ = some (.d (g.enc (vs.foldl g.mul g.one)), γ) := by
  obtain ⟨ρ', γ', e, s, rfl, rfl⟩ := forL_inv (i := 4) (fb := sSet 3 (qCall F__law_times (aE (fV 0) (aE (fV 3) (aE (fV 4) aNil)))))
    (fun k ρ γ' => ∃ s, ρ = [.d (.str kd), .d (.tuple (vs.map g.enc)), .d (.int size), .d (g.enc ((vs.take k).foldl g.mul g.one)), s] ∧ γ' = γ) (vs.map g.enc) 0 [.d (.str kd), .d (.tuple (vs.map g.enc)), .d (.int size), .d (g.enc g.one), .un] γ
    (fun j d ρ γ' hj ⟨s, e1, e2⟩ => by
      subst e1 e2
      rw [List.getElem?_map] at hj
      obtain ⟨v, hv, rfl⟩ := Option.map_eq_some_iff.mp hj
      have hm := List.mem_of_getElem? hv
      have ht : ∀ w ∈ vs.take j, g.ok w := fun w hw => h w (List.mem_of_mem_take hw)
      have o1 := g.fold_ok g.ok1 ht
      have b1 := g.fold_bd g.ok1 ht g.bd1 (hb.take j)
      have ht2 : vs.take (j + 1) = vs.take j ++ [v] := by
        rw [List.take_add_one, hv]; rfl
      have ho := h v hm
      have b2 := Bds.mem (bd := g.bd) (fun a m k => g.bdw) hb v hm
      refine ⟨[.d (.str kd), .d (.tuple (vs.map g.enc)), .d (.int size), .d (g.enc ((vs.take (j + 1)).foldl g.mul g.one)), .d (g.enc v)], γ', ?_, .d (g.enc v), ?_, rfl⟩
      · rw [ht2, List.foldl_append]
        simp [g.timF o1 ho b1 b2 (by omega)]
      · rw [Nat.zero_add]) ⟨_, rfl, rfl⟩
  simp only [Nat.zero_add, List.length_map, List.take_length] at e
  simp [F__law_product, f__law_product, List.replicate_succ, g.uniF, sFor, iE, itemsD, e]
end
end KK

namespace KK
open PySem L2 DL

def P60 : Int := 10 ^ 60
def P30 : Int := 10 ^ 30
def P20 : Int := 10 ^ 20
def P10 : Int := 10 ^ 10
def P90 : Int := P60 * P30
theorem p90 : P90 = 10 ^ 90 := by unfold P90 P60 P30; rfl
def moOk (m : Int) : Prop := m = 3 ∨ m = 10 ^ 12 ∨ m = P90
theorem moOk.bd {m : Int} (h : moOk m) : 3 ≤ m ∧ m ≤ 10 ^ 90 := by
  rcases h with rfl | rfl | rfl
  · omega
  · omega
  · rw [p90]; omega
theorem lg {i : Int} {k : Nat} (h : i.natAbs < 2 ^ k) (hk : 0 < k) (hk2 : k ≤ 1900) : i.natAbs.log2 < 1900 := by
  have := log2_lt h hk
  omega
theorem rep_int {i : Int} (h : i.natAbs.log2 < 1900) : ∃ s, reprD [.int i] = some (.str s) := by
  refine ⟨(PyData.int i).shown, ?_⟩
  · simp only [reprD]
    rw [if_pos]
    refine ⟨rfl, by simp [PyData.showable]; omega, rfl, by show (0 : Nat) ≤ 60; decide, by simp only [wgt]; omega⟩

theorem keys3 : keysOf [.str "words", .str "sums", .str "shares"] = some [.inr "words", .inr "sums", .inr "shares"] := rfl
theorem nd3 : ([.inr "words", .inr "sums", .inr "shares"] : List Key).Nodup := by decide +kernel
def uD : List (D × D) := [(.str "words", .str ""), (.str "sums", .int 0), (.str "shares", .tuple [.int 1, .int 1])]
theorem get_uD (kd : Str) (d : D) : getD (.dict uD) [.str kd, d] = some ((lookD uD (.inr kd)).getD d) := rfl
theorem rgd (n : Nat) (hn : n ≤ 1000) : rgOk 0 (n : Int) = true ∧ rgDs 0 (n : Int) = (List.range n).map iD := by
  constructor
  · unfold rgOk
    simp only [Bool.and_eq_true, decide_eq_true_eq]
    exact ⟨⟨inB_iff.mpr (by omega), inB_iff.mpr (by omega)⟩, by omega⟩
  · unfold rgDs iD
    simp
theorem unit_go (kd : Str) (n : Nat) (hn : n ≤ 1000) (γ : Bxs) : F__law_unit [.d (.str kd), .d (.int n)] γ = some (.d ((lookD uD (.inr kd)).getD (.tuple ((List.range n).map iD))), γ) := by
  have hr := (rgd n hn).1
  have hg := (rgd n hn).2
  have hd : ∀ (ρ : Row), fDict (pCons (fC (.str "words")) (fC (.str "")) (pCons (fC (.str "sums")) (fC (.int 0)) (pCons (fC (.str "shares")) (fTup (fCons (fC (.int 1)) (fCons (fC (.int 1)) fNil))) pNil))) ρ γ = some (.dict uD, ρ, γ) := by
    intro ρ
    have h2 : (2 : Nat) ≤ sizeLine := by decide
    simp [fDict, pCons, pNil, keys3, nd3, uD]
  simp [F__law_unit, f__law_unit, List.replicate_succ, hd, fTupR, fR1, intOf, hr, hg, get_uD]
theorem look0 : lookD uD (.inr "words") = some (.str "") := by simp [lookD, uD, DL.keyOf]
theorem look1 : lookD uD (.inr "sums") = some (.int 0) := by simp [lookD, uD, DL.keyOf]
theorem look2 : lookD uD (.inr "shares") = some (.tuple [.int 1, .int 1]) := by simp [lookD, uD, DL.keyOf]
theorem look3 : lookD uD (.inr "moves") = none := by simp [lookD, uD, DL.keyOf]

theorem draws_one {kd : Str} {size most : Int} {G : Type} (enc : G → D) (ok : G → Prop) (bd : Nat → G → Prop)
    (hd : ∀ {n γ}, Dc n γ → n ≤ 800000 → ∃ a γ', F__law_value_drawn [.bx 0, .d (.str kd), .d (.int size), .d (.int most)] γ = some (.d (enc a), γ') ∧ ok a ∧ bd 1 a ∧ Dc (n + 20) γ')
    {n : Nat} {γ : Bxs} (k : Nat) (hk : k ≤ 7) (h : Dc n γ) (hn : n ≤ 700000) :
    ∃ vs γ', lcL [5] (gN 5) fYes (fQ (qCall F__law_value_drawn (aB 0 (aE (fV 1) (aE (fV 2) (aE (fV 3) aNil)))))) ((List.range k).map iD) [] [.bx 0, .d (.str kd), .d (.int size), .d (.int most), .un, .un, .un, .un, .un, .un, .un] γ
    = some (vs.map enc, [.bx 0, .d (.str kd), .d (.int size), .d (.int most), .un, .un, .un, .un, .un, .un, .un], γ') ∧ vs.length = k ∧ (∀ v ∈ vs, ok v) ∧ Bds bd vs 1500 ∧ Dc (n + 20 * k) γ' := by
  obtain ⟨res, γ', e, vs, rfl, hv, hl, d⟩ := lcL_inv (i := 5) (ft := fYes) (fe := fQ (qCall F__law_value_drawn (aB 0 (aE (fV 1) (aE (fV 2) (aE (fV 3) aNil))))))
    (ρ := [.bx 0, .d (.str kd), .d (.int size), .d (.int most), .un, .un, .un, .un, .un, .un, .un]) rfl
    (fun j γ acc => ∃ vs : List G, acc = vs.map enc ∧ (∀ v ∈ vs, ok v ∧ bd 1 v) ∧ vs.length = j ∧ Dc (n + 20 * j) γ) ((List.range k).map iD) 0 [] γ (fun j d acc γ hj ⟨vs, ea, hv, hl, dc⟩ => by
      have hjr : j < k := by
        have := (List.getElem?_eq_some_iff.mp hj).1
        simpa using this
      refine ⟨true, γ, rfl, (fun z => nomatch z), fun _ => ?_⟩
      obtain ⟨a, γ', e, ha, hb, dc'⟩ := hd dc (by omega)
      refine ⟨enc a, γ', by simp [aB, e], vs ++ [a], by simp [ea], fun x hx => ?_, by simp [hl], dc'.mono (by omega)⟩
      rcases List.mem_append.mp hx with z | z
      · exact hv x z
      · rw [List.mem_singleton.mp z]; exact ⟨ha, hb⟩) ⟨[], rfl, (fun _ z => nomatch z), rfl, h⟩ (by rw [sizeLine_eq]; simp; omega)
  simp only [List.length_map, List.length_range, Nat.zero_add] at hl d
  exact ⟨vs, γ', e, hl, fun v hv' => (hv v hv').1, (Bds.one fun v hv' => (hv v hv').2).mono (by omega), d⟩

theorem prF_of {kd : Str} {G : Type} (enc : G → D) (ok : G → Prop) (bd : Nat → G → Prop) (mul : G → G → G) (n0 : Nat) (kw : ¬ kd = "words")
    (kk : kd = "words" ∨ kd = "sums" ∨ kd = "shares" ∨ kd = "moves")
    (okm : ∀ {a b}, ok a → ok b → ok (mul a b)) (bdm : ∀ {a b m k}, ok a → ok b → bd m a → bd k b → bd (m + k) (mul a b)) (bdw : ∀ {a m k}, bd m a → m ≤ k → bd k a)
    (val : ∀ {a}, ok a → bd 3200 a → ∀ γ, F_is_value_in [.d (.str kd), .d (enc a)] γ = some (.d (.bool true), γ))
    (siz : ∀ {a}, ok a → (∀ xs, enc a ≠ .tuple xs) ∨ ∃ xs, enc a = .tuple xs ∧ xs.length = n0)
    (pl : ∀ {a}, ok a → (enc a).plain = true ∧ (enc a).depth ≤ 3)
    (mulF : ∀ {a b m k}, ok a → ok b → bd m a → bd k b → m + k ≤ 3200 → ∀ γ, F_multiplied [.d (.str kd), .d (enc a), .d (enc b)] γ = some (.d (enc (mul a b)), γ))
    {v : G} {vs : List G} (hv : ok v) (hvs : ∀ a ∈ vs, ok a) (hl : vs.length ≤ 10) (hb : Bds bd (v :: vs) 3200) (γ : Bxs) :
    F_product_of [.d (.str kd), .d (.tuple (enc v :: vs.map enc))] γ = some (.d (enc (vs.foldl mul v)), γ) := by
  have hall : ∀ a ∈ v :: vs, ok a := fun a ha => by
    rcases List.mem_cons.mp ha with rfl | ha
    · exact hv
    · exact hvs a ha
  have hmem : ∀ a ∈ v :: vs, bd 3200 a := Bds.mem (bd := bd) (fun a m k => bdw) hb
  have hq : F_require_values [.d (.str kd), .d (.tuple (enc v :: vs.map enc))] γ = some (.d .none, γ) := by
    have hi : itemsD (.tuple (enc v :: vs.map enc)) = some ((v :: vs).map enc) := rfl
    refine req_values hi γ (fun d hd => ?_) (fun z => absurd z kw) (of_size hi (n := n0) (fun d hd => ?_) (by simp; omega) γ)
    · obtain ⟨a, ha, rfl⟩ := List.mem_map.mp hd
      exact val (hall a ha) (hmem a ha) γ
    · obtain ⟨a, ha, rfl⟩ := List.mem_map.mp hd
      exact siz (hall a ha)
  have he := eqNil (d := enc v) (ds := vs.map enc) (fun d hd => by
    rcases List.mem_cons.mp hd with rfl | hd
    · exact pl hv
    · obtain ⟨a, ha, rfl⟩ := List.mem_map.mp hd
      exact pl (hvs a ha))
  have h0 : (0 : Nat) ≤ sizeLine := Nat.zero_le _
  have hs : slD (.tuple (enc v :: vs.map enc)) (some 1) none = some (.tuple (vs.map enc)) := e_sla (l := 1) (by simp)
  obtain ⟨m0, hm0, hbv, hbs⟩ := hb
  have fok : ∀ (ws : List G) (a : G), ok a → (∀ w ∈ ws, ok w) → ok (ws.foldl mul a) := by
    intro ws
    induction ws with
    | nil => intro a h _; exact h
    | cons w ws ih => intro a h hw; exact ih _ (okm h (hw w List.mem_cons_self)) fun x hx => hw x (List.mem_cons_of_mem _ hx)
  have fbd : ∀ (ws : List G) (a : G) (m n : Nat), ok a → (∀ w ∈ ws, ok w) → bd m a → Bds bd ws n → bd (m + n) (ws.foldl mul a) := by
    intro ws
    induction ws with
    | nil => intro a m n _ _ h _; exact bdw h (by omega)
    | cons w ws ih =>
      intro a m n h hw hb ⟨k, h1, h2, h3⟩
      have hk := hw w List.mem_cons_self
      exact bdw (ih _ _ _ (okm h hk) (fun x hx => hw x (List.mem_cons_of_mem _ hx)) (bdm h hk hb h2) h3) (by omega)
  have cutb : ∀ (ws : List G) (n j : Nat) (w : G), Bds bd ws n → ws[j]? = some w → ∃ k, k ≤ n ∧ bd k w ∧ Bds bd (ws.take j) (n - k) := by
    intro ws
    induction ws with
    | nil => intro n j w _ h; simp at h
    | cons x ws ih =>
      intro n j w ⟨k, h1, h2, h3⟩ h
      cases j with
      | zero =>
        simp at h
        subst h
        exact ⟨k, h1, h2, trivial⟩
      | succ j =>
        obtain ⟨k2, g1, g2, g3⟩ := ih _ j w h3 (by simpa using h)
        refine ⟨k2, by omega, g2, k, by omega, h2, ?_⟩
        rw [show n - k2 - k = n - k - k2 by omega]; exact g3
  obtain ⟨ρ', γ', e, s, rfl, rfl⟩ := forL_inv (i := 3) (fb := sSet 2 (qCall F_multiplied (aE (fV 0) (aE (fV 2) (aE (fV 3) aNil)))))
    (fun k ρ γ' => ∃ s, ρ = [.d (.str kd), .d (.tuple (enc v :: vs.map enc)), .d (enc ((vs.take k).foldl mul v)), s] ∧ γ' = γ) (vs.map enc) 0 [.d (.str kd), .d (.tuple (enc v :: vs.map enc)), .d (enc v), .un] γ
    (fun j d ρ γ' hj ⟨s, e1, e2⟩ => by
      subst e1 e2
      rw [List.getElem?_map] at hj
      obtain ⟨w, hw, rfl⟩ := Option.map_eq_some_iff.mp hj
      have hm := List.mem_of_getElem? hw
      have ht : ∀ x ∈ vs.take j, ok x := fun x hx => hvs x (List.mem_of_mem_take hx)
      obtain ⟨k, k1, k2, k3⟩ := cutb vs _ j w hbs hw
      have o1 := fok _ v hv ht
      have b1 := fbd _ v _ _ hv ht hbv k3
      have ht2 : vs.take (j + 1) = vs.take j ++ [w] := by
        rw [List.take_add_one, hw]; rfl
      refine ⟨[.d (.str kd), .d (.tuple (enc v :: vs.map enc)), .d (enc ((vs.take (j + 1)).foldl mul v)), .d (enc w)], γ', ?_, .d (enc w), ?_, rfl⟩
      · rw [ht2, List.foldl_append]
        simp [mulF o1 (hvs w hm) b1 k2 (by omega)]
      · rw [Nat.zero_add]) ⟨_, rfl, rfl⟩
  simp only [Nat.zero_add, List.length_map, List.take_length] at e
  have i0 : ixD (.tuple (enc v :: vs.map enc)) (.int 0) = some (enc v) := by simp [ixD, atI, ixN]
  simp [F_product_of, f_product_of, List.replicate_succ, req_kind kk, he, hq, kw, sFor, iE, hs, itemsD, i0, e]
end KK

namespace KK
open PySem L2 DL

def eWd (w : W) : D := .str (S w)
def okA (w : W) : Prop := ∀ c ∈ w, c ∈ ([97, 98, 99] : W)
theorem okA.let {w : W} (h : okA w) : ∀ c ∈ w, c ∈ LET := fun c hc => by
  have := h c hc
  simp [LET] at this ⊢
  omega
theorem abc_eq : ("abc" : Str) = S [97, 98, 99] := by decide +kernel
theorem addS {v w : W} (h1 : v.length ≤ 100000) (h2 : w.length ≤ 100000) : addD (.str (S v)) (.str (S w)) = some (.str (S (v ++ w))) := by
  have e1 : (S v).length = v.length := S_len v
  have e2 : (S w).length = w.length := S_len w
  simp only [addD, e1, e2]
  rw [if_pos (by rw [sizeLine_eq]; omega)]
  congr 2
  apply str_S.mpr
  show ((S v).cps ++ (S w).cps).toList = _
  simp
/-- words joined -/
theorem glue_W : ∀ (ws : List W) (init : Array Nat), ((ws.map fun w => S w).foldl (fun acc p => acc ++ (S []).cps ++ p.cps) init).toList = init.toList ++ ws.flatten
  | [], init => by simp
  | c :: w, init => by
    rw [List.map_cons, List.foldl_cons, glue_W w]
    simp
theorem join_W (v : W) (ws : List W) : Txt.join (S []) ((v :: ws).map fun w => S w) = S ((v :: ws).flatten) := by
  apply str_S.mpr
  exact glue_W ws (S v).cps
theorem strs_W (ws : List W) : strsOf (ws.map eWd) = some (ws.map fun w => S w) := by
  have := strsOf_map (ws.map fun w => S w)
  rwa [List.map_map] at this
theorem len_W : ∀ ws : List W, ((ws.map fun w => S w).map (·.length)).sum = ws.flatten.length
  | [] => rfl
  | w :: ws => by
    simp only [List.map_cons, List.sum_cons, len_W ws, List.flatten_cons, List.length_append]
    rw [S_len]
theorem e_joinW (v : W) (ws : List W) (h : (v :: ws).flatten.length ≤ 1000000) : joinD (.str "") [.tuple ((v :: ws).map eWd)] = some (.str (S (v :: ws).flatten)) := by
  simp only [joinD, strs_W, Option.bind_some, emp, join_W]
  rw [if_pos]
  rw [len_W, S_len]
  simp only [List.length_map] at h ⊢
  have : (([] : W).length) = 0 := rfl
  simp
  simp at h
  omega
theorem foldl_app : ∀ (ws : List W) (v : W), ws.foldl (· ++ ·) v = (v :: ws).flatten
  | [], v => by simp
  | w :: ws, v => by
    rw [List.foldl_cons, foldl_app ws]
    simp
theorem rep_str {w : W} (h : okA w) (hl : w.length ≤ 100000) : ∃ s, reprD [eWd w] = some (.str s) := by
  refine ⟨(eWd w).shown, ?_⟩
  have e1 : (S w).length = w.length := S_len w
  simp only [reprD]
  rw [if_pos]
  refine ⟨rfl, ?_, ?_, by show (0 : Nat) ≤ 60; decide, ?_⟩
  · rfl
  · simp only [eWd, codeOk, List.all_eq_true, decide_eq_true_eq]
    intro c hc
    have := h c hc
    simp at this
    omega
  · simp only [eWd, wgt, e1]
    omega
def kWords (size : Nat) (h5 : size ≤ 5) (most : Int) : MK "words" size most W where
  enc := eWd
  ok := okA
  bd m w := w.length ≤ 4 * m
  mul := (· ++ ·)
  one := []
  n0 := 0
  okm h1 h2 := fun c hc => by
    rcases List.mem_append.mp hc with z | z
    · exact h1 c z
    · exact h2 c z
  ok1 := fun _ z => nomatch z
  assoc _ _ _ := List.append_assoc _ _ _
  onem _ := List.nil_append _
  mone _ := List.append_nil _
  kk := Or.inl rfl
  bdm _ _ h1 h2 := by rw [List.length_append]; omega
  bdw h e := by omega
  bd1 := Nat.le_refl _
  val {a} h hb γ := by
    have hl := letters (w := a) (by omega) γ
    have e : (a.all fun c => decide (c ∈ LET)) = true := by simpa using h.let
    rw [e] at hl
    simp [F_is_value_in, f_is_value_in, List.replicate_succ, eWd, hl]
  wrd _ {a} h hb γ := word (by omega) h.let γ
  siz _ := Or.inl fun xs z => nomatch z
  prF {v vs} hv hvs hl hb γ := by
    have hall : ∀ a ∈ v :: vs, okA a := fun a ha => by
      rcases List.mem_cons.mp ha with rfl | ha
      · exact hv
      · exact hvs a ha
    have hmem : ∀ a ∈ v :: vs, a.length ≤ 4 * 3200 := Bds.mem (bd := fun m (w : W) => w.length ≤ 4 * m) (fun a m k h e => by omega) hb
    have hq : F_require_values [.d (.str "words"), .d (.tuple (eWd v :: vs.map eWd))] γ = some (.d .none, γ) := by
      have hi : itemsD (.tuple (eWd v :: vs.map eWd)) = some ((v :: vs).map eWd) := rfl
      refine req_values hi γ (fun d hd => ?_) (fun _ d hd => ?_) (of_size hi (n := 0) (fun d hd => ?_) (by simp; omega) γ)
      · obtain ⟨a, ha, rfl⟩ := List.mem_map.mp hd
        have hb := hmem a ha
        have hl := letters (w := a) (by omega) γ
        have e : (a.all fun c => decide (c ∈ LET)) = true := by simpa using (hall a ha).let
        rw [e] at hl
        simp [F_is_value_in, f_is_value_in, List.replicate_succ, eWd, hl]
      · obtain ⟨a, ha, rfl⟩ := List.mem_map.mp hd
        have hb := hmem a ha
        exact word (by omega) (hall a ha).let γ
      · obtain ⟨a, ha, rfl⟩ := List.mem_map.mp hd
        exact Or.inl fun xs z => nomatch z
    have he := eqNil (d := eWd v) (ds := vs.map eWd) (fun d hd => by
      rcases List.mem_cons.mp hd with rfl | hd
      · exact ⟨rfl, by show (0 : Nat) ≤ 3; decide⟩
      · obtain ⟨a, ha, rfl⟩ := List.mem_map.mp hd
        exact ⟨rfl, by show (0 : Nat) ≤ 3; decide⟩)
    have h0 : (0 : Nat) ≤ sizeLine := Nat.zero_le _
    have hlen : ∀ (ws : List W) (n : Nat), Bds (fun m (w : W) => w.length ≤ 4 * m) ws n → ws.flatten.length ≤ 4 * n := by
      intro ws
      induction ws with
      | nil => intro n _; exact Nat.zero_le _
      | cons w ws ih =>
        intro n ⟨m, h1, h2, h3⟩
        have := ih _ h3
        rw [List.flatten_cons, List.length_append]
        omega
    have hj := e_joinW v vs (by have := hlen _ _ hb; omega)
    rw [foldl_app]
    simp only [List.map_cons] at hj
    simp [F_product_of, f_product_of, List.replicate_succ, req_kind (Or.inl rfl), he, hq, hj]
    rfl
  timF {a b m k} _ _ h1 h2 hs γ := by
    simp [F__law_times, f__law_times, List.replicate_succ, eWd, addS (v := a) (w := b) (by omega) (by omega)]
  unF _ γ := by
    rw [show eWd [] = .str "" by rw [emp]; rfl]
    simp [F_unit_of, f_unit_of, List.replicate_succ]
  uniF γ := by rw [unit_go _ _ (by omega), look0, emp]; rfl
  pl _ := ⟨rfl, by show (0 : Nat) ≤ 3; decide⟩
  rep h hb := rep_str h (by omega)
  draws k hk h hn := draws_one eWd okA (fun m (w : W) => w.length ≤ 4 * m) (fun {n γ} h hn => by
    obtain ⟨v, γ', e, h1, h2, d⟩ := word_drawn (most := 4) (w := [97, 98, 99]) h (by omega) (by simp) (by simp) (by omega)
    refine ⟨v, γ', ?_, h1, by omega, d.mono (by omega)⟩
    have e : F__law_word_drawn [.bx 0, .d (.int 4), .d (.str (S [97, 98, 99]))] γ = some (.d (.str (S v)), γ') := e
    rw [← abc_eq] at e
    simp [F__law_value_drawn, f__law_value_drawn, List.replicate_succ, aB, e, eWd]) k hk h hn

theorem su_val (a : Int) (γ : Bxs) : F_is_value_in [.d (.str "sums"), .d (.int a)] γ = some (.d (.bool true), γ) := by
  simp [F_is_value_in, f_is_value_in, List.replicate_succ, whole, isWh]
def bdS (m : Nat) (a : Int) : Prop := a.natAbs ≤ m * 10 ^ 90
theorem bdS_add {a b : Int} {m k : Nat} (h1 : bdS m a) (h2 : bdS k b) : bdS (m + k) (a + b) := by
  unfold bdS at *
  have := Int.natAbs_add_le a b
  rw [Nat.add_mul]; omega
def kSums (size : Nat) (h5 : size ≤ 5) (most : Int) (hm : moOk most) : MK "sums" size most Int where
  enc := .int
  ok _ := True
  bd := bdS
  mul := (· + ·)
  one := 0
  n0 := 0
  okm _ _ := trivial
  ok1 := trivial
  assoc _ _ _ := Int.add_assoc _ _ _
  onem _ := Int.zero_add _
  mone _ := Int.add_zero _
  kk := Or.inr (Or.inl rfl)
  bdm _ _ h1 h2 := bdS_add h1 h2
  bdw h e := Nat.le_trans h (Nat.mul_le_mul_right _ e)
  bd1 := Nat.zero_le _
  val _ _ γ := su_val _ γ
  wrd z := absurd z (by decide +kernel)
  siz _ := Or.inl fun xs z => nomatch z
  prF {v vs} hv hvs hl hb γ := prF_of (enc := .int) (ok := fun _ => True) (bd := bdS) (mul := (· + ·)) (n0 := 0) (by decide +kernel) (Or.inr (Or.inl rfl)) (fun _ _ => trivial) (fun _ _ h1 h2 => bdS_add h1 h2)
    (fun h e => Nat.le_trans h (Nat.mul_le_mul_right _ e)) (fun _ _ γ => su_val _ γ) (fun _ => Or.inl fun xs z => nomatch z) (fun _ => ⟨rfl, by show (0 : Nat) ≤ 3; decide⟩) (fun _ _ _ _ _ γ => mult_su _ _ γ) hv hvs hl hb γ
  timF _ _ _ _ _ γ := times_su _ _ γ
  unF _ γ := by simp [F_unit_of, f_unit_of, List.replicate_succ]
  uniF γ := by rw [unit_go _ _ (by omega), look1]; rfl
  pl _ := ⟨rfl, by show (0 : Nat) ≤ 3; decide⟩
  rep {a} _ h := rep_int (lg (k := 400) (Nat.lt_of_le_of_lt h (by decide +kernel)) (by omega) (by omega))
  draws k hk h hn := draws_one PyData.int (fun _ => True) bdS (fun {n γ} h hn => by
    have hb := hm.bd
    obtain ⟨r, γ', e, r0, r1, d⟩ := roll h (by omega) (t := 2 * most + 1) (by omega) (by omega)
    have m1 : mulD (.int 2) (.int most) = some (.int (2 * most)) := mulD_ok (by decide) (sm (by omega) (by omega))
    refine ⟨r - most, γ', ?_, trivial, by unfold bdS; omega, d.mono (by omega)⟩
    simp [F__law_value_drawn, f__law_value_drawn, List.replicate_succ, aB, m1, e]) k hk h hn
def iSums (size : Nat) (h5 : size ≤ 5) (most : Int) (hm : moOk most) : MI (kSums size h5 most hm) where
  inv a := -a
  kw := by decide +kernel
  oki _ := trivial
  bdi {a m} _ h := by
    show bdS m (-a)
    unfold bdS
    rw [Int.natAbs_neg]; exact h
  invm {a} _ := Int.add_left_neg a
  minv {a} _ := Int.add_right_neg a
  inv2 _ := Int.neg_neg _
  invF _ _ γ := back_su _ γ
  lbF _ _ γ := lback_su _ γ
end KK

namespace KK
open PySem L2 DL

theorem redP_le {a b : Nat} : (redP a b).1 ≤ a ∧ (redP a b).2 ≤ b := ⟨Nat.div_le_self _ _, Nat.div_le_self _ _⟩
def bdF (m : Nat) (x : Fr) : Prop := x.1 * x.2 ≤ 2 ^ m
def wF (x : Fr) : Nat := x.1 * x.2
theorem Sh.w1 {x : Fr} (h : Sh x) : 1 ≤ wF x := Nat.mul_pos h.h1 h.h2
theorem sh_w {x y : Fr} : wF (shMul x y) ≤ wF x * wF y := by
  have := redP_le (a := x.1 * y.1) (b := x.2 * y.2)
  refine Nat.le_trans (Nat.mul_le_mul this.1 this.2) ?_
  unfold wF
  rw [Nat.mul_mul_mul_comm]
  exact Nat.le_refl _
theorem bdF_mul {x y : Fr} {m k : Nat} (h1 : bdF m x) (h2 : bdF k y) : bdF (m + k) (shMul x y) := by
  unfold bdF
  rw [Nat.pow_add]
  exact Nat.le_trans sh_w (Nat.mul_le_mul h1 h2)
theorem bdF_parts {x : Fr} {m : Nat} (h : Sh x) (hb : bdF m x) : x.1 ≤ 2 ^ m ∧ x.2 ≤ 2 ^ m :=
  ⟨Nat.le_trans (Nat.le_mul_of_pos_right _ h.h2) hb, Nat.le_trans (Nat.le_mul_of_pos_left _ h.h1) hb⟩
theorem p_lt {m : Nat} (h : m ≤ 3200) : 2 ^ m < LM := by
  unfold LM
  exact Nat.pow_lt_pow_right (by decide) (by omega)
theorem bdF_prod {x y : Fr} {m k : Nat} (hx : Sh x) (hy : Sh y) (h1 : bdF m x) (h2 : bdF k y) (hs : m + k ≤ 3200) : x.1 * y.1 < LM ∧ x.2 * y.2 < LM := by
  have p := bdF_parts hx h1
  have q := bdF_parts hy h2
  have := p_lt hs
  rw [Nat.pow_add] at this
  exact ⟨Nat.lt_of_le_of_lt (Nat.mul_le_mul p.1 q.1) this, Nat.lt_of_le_of_lt (Nat.mul_le_mul p.2 q.2) this⟩
theorem dep2 (a b : Int) : PyData.depth (.tuple [.int a, .int b]) ≤ 3 := by simp [PyData.depth, PyData.depthAll]
def prodw : List Fr → Nat
  | [] => 1
  | x :: xs => wF x * prodw xs
theorem prodw_pos : ∀ {xs : List Fr}, (∀ x ∈ xs, Sh x) → 1 ≤ prodw xs
  | [], _ => Nat.le_refl _
  | x :: xs, h => Nat.mul_pos (h x List.mem_cons_self).w1 (prodw_pos fun y hy => h y (List.mem_cons_of_mem _ hy))
theorem prodw_app : ∀ (xs : List Fr) (x : Fr), prodw (xs ++ [x]) = prodw xs * wF x
  | [], x => by simp [prodw]
  | y :: xs, x => by simp [prodw, prodw_app xs x, Nat.mul_assoc]
theorem bds_of : ∀ {xs : List Fr} {N : Nat}, (∀ x ∈ xs, Sh x) → prodw xs ≤ 2 ^ N → Bds bdF xs (N + xs.length)
  | [], _, _, _ => trivial
  | x :: xs, N, h, hp => by
    have hx := (h x List.mem_cons_self).w1
    have ht : ∀ y ∈ xs, Sh y := fun y hy => h y (List.mem_cons_of_mem _ hy)
    have h0 : wF x ≠ 0 := by omega
    have l1 := Nat.lt_log2_self (n := wF x)
    have l2 := Nat.log2_self_le h0
    have r1 := prodw_pos ht
    have hp' : wF x * prodw xs ≤ 2 ^ N := hp
    have hl : (wF x).log2 ≤ N := by
      have : 2 ^ (wF x).log2 ≤ 2 ^ N := Nat.le_trans l2 (Nat.le_trans (Nat.le_mul_of_pos_right _ r1) hp')
      exact (Nat.pow_le_pow_iff_right (by decide)).mp this
    have hr : prodw xs ≤ 2 ^ (N - (wF x).log2) := by
      have e : 2 ^ N = 2 ^ (wF x).log2 * 2 ^ (N - (wF x).log2) := by rw [← Nat.pow_add]; congr 1; omega
      have : 2 ^ (wF x).log2 * prodw xs ≤ 2 ^ (wF x).log2 * 2 ^ (N - (wF x).log2) := by
        rw [← e]
        exact Nat.le_trans (Nat.mul_le_mul_right _ l2) hp'
      exact Nat.le_of_mul_le_mul_left this (Nat.pow_pos (by decide))
    refine ⟨(wF x).log2 + 1, by simp only [List.length_cons]; omega, Nat.le_of_lt l1, ?_⟩
    have := bds_of ht hr
    rw [show N + (x :: xs).length - ((wF x).log2 + 1) = N - (wF x).log2 + xs.length by simp only [List.length_cons]; omega]
    exact this
theorem sh_val {a : Fr} (h : Sh a) (hb : bdF 3200 a) (γ : Bxs) : F_is_value_in [.d (.str "shares"), .d (eSh a)] γ = some (.d (.bool true), γ) := by
  have h2 : a.2 < LM := Nat.lt_of_le_of_lt (bdF_parts h hb).2 (p_lt (Nat.le_refl _))
  simp [F_is_value_in, f_is_value_in, List.replicate_succ, share h h2]
theorem big120 : (10 : Int) ^ 120 * 2 ^ 980 ≤ 2 ^ 1400 := by decide +kernel
/-- seven shares drawn -/
theorem draws_sh {size most : Int} (hm : moOk most) {n : Nat} {γ : Bxs} (k : Nat) (hk : k ≤ 7) (h : Dc n γ) (hn : n ≤ 700000) :
    ∃ vs γ', lcL [5] (gN 5) fYes (fQ (qCall F__law_value_drawn (aB 0 (aE (fV 1) (aE (fV 2) (aE (fV 3) aNil)))))) ((List.range k).map iD) [] [.bx 0, .d (.str "shares"), .d (.int size), .d (.int most), .un, .un, .un, .un, .un, .un, .un] γ
    = some (vs.map eSh, [.bx 0, .d (.str "shares"), .d (.int size), .d (.int most), .un, .un, .un, .un, .un, .un, .un], γ') ∧ vs.length = k ∧ (∀ v ∈ vs, Sh v) ∧ Bds bdF vs 1500 ∧ Dc (n + 20 * k) γ' := by
  obtain ⟨res, γ', e, vs, rfl, hv, hl, d, hp⟩ := lcL_inv (i := 5) (ft := fYes) (fe := fQ (qCall F__law_value_drawn (aB 0 (aE (fV 1) (aE (fV 2) (aE (fV 3) aNil))))))
    (ρ := [.bx 0, .d (.str "shares"), .d (.int size), .d (.int most), .un, .un, .un, .un, .un, .un, .un]) rfl
    (fun j γ' acc => ∃ vs : List Fr, acc = vs.map eSh ∧ (∀ v ∈ vs, Sh v) ∧ vs.length = j ∧ Dc (n + 20 * j) γ' ∧ (prodw vs : Int) * (1 + tp γ') ≤ 2 ^ (140 * j) * (1 + tp γ)) ((List.range k).map iD) 0 [] γ (fun j d acc γ1 hj ⟨vs, ea, hv, hl, dc, hp⟩ => by
      have hjr : j < k := by
        have := (List.getElem?_eq_some_iff.mp hj).1
        simpa using this
      refine ⟨true, γ1, rfl, (fun z => nomatch z), fun _ => ?_⟩
      have hb := hm.bd
      obtain ⟨r, γ2, e, r0, r1, d1, t1⟩ := rollp dc (by omega) (t := most) (by omega) (by omega)
      obtain ⟨q, γ3, e2, q0, q1, d2, t2⟩ := rollp d1 (by omega) (t := most) (by omega) (by omega)
      have c1 : (1 : Int) + r = ((1 + r.toNat : Nat) : Int) := by omega
      have c2 : (1 : Int) + q = ((1 + q.toNat : Nat) : Int) := by omega
      have lm : (10 : Nat) ^ 90 < LM := Nat.lt_trans (show (10 : Nat) ^ 90 < 2 ^ 300 by decide +kernel) (p_lt (by omega))
      have hlo := law_lowest (a := 1 + r.toNat) (b := 1 + q.toNat) (by omega) (by omega) (by omega) γ3
      have hle := redP_le (a := 1 + r.toNat) (b := 1 + q.toNat)
      have hs : Sh (redP (1 + r.toNat) (1 + q.toNat)) := redP_sh (by omega) (by omega)
      have z1 := dc.tp0.1
      have z2 := d1.tp0.1
      have z3 := d2.tp0.1
      refine ⟨eSh (redP (1 + r.toNat) (1 + q.toNat)), γ3, ?_, vs ++ [redP (1 + r.toNat) (1 + q.toNat)], by simp [ea], fun x hx => ?_, by simp [hl], d2.mono (by omega), ?_⟩
      · simp only [← c1, ← c2] at hlo
        simp [F__law_value_drawn, f__law_value_drawn, List.replicate_succ, aB, e, e2, hlo]
      · rcases List.mem_append.mp hx with z | z
        · exact hv x z
        · rw [List.mem_singleton.mp z]; exact hs
      · rw [prodw_app]
        have w1 : (wF (redP (1 + r.toNat) (1 + q.toNat)) : Int) ≤ (1 + r) * (1 + q) := by
          rw [c1, c2, ← Int.natCast_mul]
          exact Int.ofNat_le.mpr (Nat.mul_le_mul hle.1 hle.2)
        generalize hW : wF (redP (1 + r.toNat) (1 + q.toNat)) = W at *
        have p0 : (0 : Int) ≤ prodw vs := Int.natCast_nonneg _
        -- chain
        have s1 : (1 + r) * (1 + q) * (1 + tp γ3) ≤ 2 ^ 140 * (1 + tp γ1) := by
          have a1 : (1 + r) * ((1 + q) * (1 + tp γ3)) ≤ (1 + r) * (2 ^ 70 * (1 + tp γ2)) := Int.mul_le_mul_of_nonneg_left t2 (by omega)
          have a2 : (2 : Int) ^ 70 * ((1 + r) * (1 + tp γ2)) ≤ 2 ^ 70 * (2 ^ 70 * (1 + tp γ1)) := Int.mul_le_mul_of_nonneg_left t1 (by decide)
          have a3 : (1 + r) * (2 ^ 70 * (1 + tp γ2)) = (2 : Int) ^ 70 * ((1 + r) * (1 + tp γ2)) := by rw [Int.mul_left_comm]
          have a4 : (2 : Int) ^ 70 * (2 ^ 70 * (1 + tp γ1)) = 2 ^ 140 * (1 + tp γ1) := by rw [← Int.mul_assoc]; rfl
          rw [Int.mul_assoc]
          rw [a3] at a1
          rw [a4] at a2
          exact Int.le_trans a1 a2
        have s2 : (W : Int) * (1 + tp γ3) ≤ 2 ^ 140 * (1 + tp γ1) := Int.le_trans (Int.mul_le_mul_of_nonneg_right w1 (by omega)) s1
        have s3 : (prodw vs : Int) * ((W : Int) * (1 + tp γ3)) ≤ (prodw vs : Int) * (2 ^ 140 * (1 + tp γ1)) := Int.mul_le_mul_of_nonneg_left s2 p0
        have s4 : (2 : Int) ^ 140 * ((prodw vs : Int) * (1 + tp γ1)) ≤ 2 ^ 140 * (2 ^ (140 * (0 + j)) * (1 + tp γ)) := Int.mul_le_mul_of_nonneg_left hp (by decide)
        have s5 : (prodw vs : Int) * (2 ^ 140 * (1 + tp γ1)) = (2 : Int) ^ 140 * ((prodw vs : Int) * (1 + tp γ1)) := by rw [Int.mul_left_comm]
        have s6 : (2 : Int) ^ 140 * (2 ^ (140 * (0 + j)) * (1 + tp γ)) = 2 ^ (140 * (0 + j + 1)) * (1 + tp γ) := by
          rw [← Int.mul_assoc, ← Int.pow_add]
          congr 2
          omega
        rw [Int.natCast_mul, Int.mul_assoc]
        rw [s5] at s3
        rw [s6] at s4
        exact Int.le_trans s3 s4) ⟨[], rfl, (fun _ z => nomatch z), rfl, h, by
          simp [prodw]⟩ (by rw [sizeLine_eq]; simp; omega)
  simp only [List.length_map, List.length_range, Nat.zero_add] at hl d hp
  refine ⟨vs, γ', e, hl, hv, ?_, d⟩
  have t0 := d.tp0.1
  have t1 := h.tp0
  have hP : prodw vs ≤ 2 ^ 1400 := by
    have p0 : (0 : Int) ≤ prodw vs := Int.natCast_nonneg _
    have a1 : (prodw vs : Int) * 1 ≤ (prodw vs : Int) * (1 + tp γ') := Int.mul_le_mul_of_nonneg_left (by omega) p0
    have a2 : (2 : Int) ^ (140 * k) * (1 + tp γ) ≤ 2 ^ 980 * 10 ^ 120 := by
      refine Int.mul_le_mul ?_ (by omega) (by omega) (by decide)
      have : (2 : Nat) ^ (140 * k) ≤ 2 ^ 980 := Nat.pow_le_pow_right (by decide) (by omega)
      exact_mod_cast this
    have a3 := big120
    rw [Int.mul_comm] at a3
    have a4 : (prodw vs : Int) ≤ 2 ^ 1400 := by
      rw [Int.mul_one] at a1
      exact Int.le_trans a1 (Int.le_trans hp (Int.le_trans a2 a3))
    exact_mod_cast a4
  exact (bds_of hv hP).mono (by omega)
def kShares (size : Nat) (h5 : size ≤ 5) (most : Int) (hm : moOk most) : MK "shares" size most Fr where
  enc := eSh
  ok := Sh
  bd := bdF
  mul := shMul
  one := (1, 1)
  n0 := 2
  okm := gp_shares.okm
  ok1 := gp_shares.ok1
  assoc := gp_shares.assoc
  onem := gp_shares.onem
  mone := gp_shares.mone
  kk := Or.inr (Or.inr (Or.inl rfl))
  bdm _ _ h1 h2 := bdF_mul h1 h2
  bdw h e := Nat.le_trans h (Nat.pow_le_pow_right (by decide) e)
  bd1 := by unfold bdF; decide
  val h hb γ := sh_val h hb γ
  wrd z := absurd z (by decide +kernel)
  siz _ := Or.inr ⟨_, rfl, rfl⟩
  prF {v vs} hv hvs hl hb γ := prF_of (enc := eSh) (ok := Sh) (bd := bdF) (mul := shMul) (n0 := 2) (by decide +kernel) (Or.inr (Or.inr (Or.inl rfl))) gp_shares.okm (fun _ _ h1 h2 => bdF_mul h1 h2)
    (fun h e => Nat.le_trans h (Nat.pow_le_pow_right (by decide) e)) sh_val (fun _ => Or.inr ⟨_, rfl, rfl⟩) (fun _ => ⟨rfl, dep2 _ _⟩) (fun ha hb h1 h2 hs γ => mult_sh ha hb (bdF_prod ha hb h1 h2 hs).1 (bdF_prod ha hb h1 h2 hs).2 γ) hv hvs hl hb γ
  timF ha hb h1 h2 hs γ := times_sh ha hb (bdF_prod ha hb h1 h2 hs).1 (bdF_prod ha hb h1 h2 hs).2 γ
  unF _ γ := by simp [F_unit_of, f_unit_of, List.replicate_succ, eSh]
  uniF γ := by rw [unit_go _ _ (by omega), look2]; rfl
  pl _ := ⟨rfl, dep2 _ _⟩
  rep {a} h hb := by
    have p := bdF_parts h hb
    have q : (2 : Nat) ^ 1500 < 2 ^ 1501 := Nat.pow_lt_pow_right (by decide) (by omega)
    have l1 := lg (i := (a.1 : Int)) (k := 1501) (by omega) (by omega) (by omega)
    have l2 := lg (i := (a.2 : Int)) (k := 1501) (by omega) (by omega) (by omega)
    refine ⟨(eSh a).shown, ?_⟩
    simp only [reprD]
    rw [if_pos]
    refine ⟨rfl, ?_, rfl, Nat.le_trans (dep2 _ _) (by decide), ?_⟩
    · simp only [eSh, PyData.showable, PyData.showableAll, Bool.and_true, Bool.and_eq_true, decide_eq_true_eq]
      omega
    · simp only [eSh, wgt, wgts]
      omega
  draws k hk h hn := draws_sh hm k hk h hn
def iShares (size : Nat) (h5 : size ≤ 5) (most : Int) (hm : moOk most) : MI (kShares size h5 most hm) where
  inv := shInv
  kw := by decide +kernel
  oki := gp_shares.oki
  bdi {a m} _ h := by
    show a.2 * a.1 ≤ _
    rw [Nat.mul_comm]; exact h
  invm := gp_shares.invm
  minv := gp_shares.minv
  inv2 _ := rfl
  invF _ _ γ := back_sh _ γ
  lbF _ _ γ := lback_sh _ γ
end KK

namespace KK
open PySem L2 DL

theorem mv_val {n : Nat} (h1 : 1 ≤ n) (h5 : n ≤ 5) {a : W} (h : IsP n a) (γ : Bxs) : F_is_value_in [.d (.str "moves"), .d (eMv a)] γ = some (.d (.bool true), γ) := by
  simp [F_is_value_in, f_is_value_in, List.replicate_succ, move h h1 h5]
theorem mv_pl (a : W) : (eMv a).plain = true ∧ (eMv a).depth ≤ 3 := by
  unfold eMv
  simp only [PyData.plain, PyData.depth]
  rw [iD_map, depthInts]
  exact ⟨plainInts _, by decide⟩
theorem mv_rep {n : Nat} (h5 : n ≤ 5) {a : W} (h : IsP n a) : ∃ s, reprD [eMv a] = some (.str s) := by
  have hw : ∀ p : W, (∀ i ∈ p, i < n) → PyData.showableAll (p.map iD) = true ∧ codesOk (p.map iD) = true ∧ wgts (p.map iD) ≤ 2000 * p.length := by
    intro p
    induction p with
    | nil => intro _; exact ⟨rfl, rfl, by simp [wgts]⟩
    | cons i p ih =>
      intro hp
      obtain ⟨i1, i2, i3⟩ := ih fun j hj => hp j (List.mem_cons_of_mem _ hj)
      have hi := hp i List.mem_cons_self
      have l1 := lg (i := (i : Int)) (k := 10) (by omega) (by omega) (by omega)
      refine ⟨?_, ?_, ?_⟩
      · simp only [List.map_cons, PyData.showableAll, i1, Bool.and_true, iD, PyData.showable, decide_eq_true_eq]
        omega
      · simp [codesOk, i2, iD, codeOk]
      · simp only [List.map_cons, wgts, iD, wgt, List.length_cons] at i3 ⊢
        omega
  obtain ⟨w1, w2, w3⟩ := hw a fun i hi => h.mem.mp hi
  have hl := h.len
  refine ⟨(eMv a).shown, ?_⟩
  simp only [reprD]
  rw [if_pos]
  exact ⟨(mv_pl a).1, by simp only [eMv, PyData.showable]; exact w1, by simp only [eMv, codeOk]; exact w2, Nat.le_trans (mv_pl a).2 (by decide), by simp only [eMv, wgt]; omega⟩
def kMoves (n : Nat) (h1 : 1 ≤ n) (h5 : n ≤ 5) (most : Int) : MK "moves" n most W where
  enc := eMv
  ok := IsP n
  bd _ _ := True
  mul := mvMul
  one := List.range n
  n0 := n
  okm := (gp_moves n).okm
  ok1 := (gp_moves n).ok1
  assoc := (gp_moves n).assoc
  onem := (gp_moves n).onem
  mone := (gp_moves n).mone
  kk := Or.inr (Or.inr (Or.inr rfl))
  bdm _ _ _ _ := trivial
  bdw _ _ := trivial
  bd1 := trivial
  val h _ γ := mv_val h1 h5 h γ
  wrd z := absurd z (by decide +kernel)
  siz h := Or.inr ⟨_, rfl, by simp [h.len]⟩
  prF {v vs} hv hvs hl hb γ := prF_of (enc := eMv) (ok := IsP n) (bd := fun _ _ => True) (mul := mvMul) (n0 := n) (by decide +kernel) (Or.inr (Or.inr (Or.inr rfl))) (gp_moves n).okm (fun _ _ _ _ => trivial) (fun _ _ => trivial) (fun h _ γ => mv_val h1 h5 h γ)
    (fun h => Or.inr ⟨_, rfl, by simp [h.len]⟩) (fun _ => mv_pl _) (fun {a b m k} ha hb _ _ _ γ => mult_mv (fun i hi => by rw [hb.len]; exact ha.mem.mp hi) (by rw [ha.len]; omega) γ) hv hvs hl hb γ
  timF {a b m k} ha hb _ _ _ γ := times_mv (fun i hi => by rw [hb.len]; exact ha.mem.mp hi) (by rw [ha.len]; omega) γ
  unF {a} h γ := by
    have hr := (rgd n (by omega)).1
    have hg := (rgd n (by omega)).2
    have hl : (a.map iD).length = n := by simp [h.len]
    simp [F_unit_of, f_unit_of, List.replicate_succ, eMv, fTupR, fR1, intOf, h.len, hr, hg]
  uniF γ := by rw [unit_go _ _ (by omega), look3]; rfl
  pl _ := mv_pl _
  rep h _ := mv_rep h5 h
  draws k hk h hn := draws_one eMv (IsP n) (fun _ _ => True) (fun {m γ} hd hn => by
    have hr := (rgd n (by omega)).1
    have hg := (rgd n (by omega)).2
    obtain ⟨ys, γ', e, hp, d⟩ := mixed (xs := (List.range n).map iD) hd (by omega) (by simp; omega)
    obtain ⟨p, rfl, hq⟩ := perm_iD hp
    refine ⟨p, γ', ?_, hq, trivial, d.mono (by simp; omega)⟩
    simp [F__law_value_drawn, f__law_value_drawn, List.replicate_succ, aB, qLR, fR1, intOf, hr, hg, e, eMv]) k hk h hn
theorem mv_inv2 {n : Nat} {a : W} (h : IsP n a) : mvInv (mvInv a) = a := by
  have g := gp_moves n
  have hi := g.oki h
  exact g.lcan hi (g.oki hi) h (by rw [g.minv hi, g.invm h])
def iMoves (n : Nat) (h1 : 1 ≤ n) (h5 : n ≤ 5) (most : Int) : MI (kMoves n h1 h5 most) where
  inv := mvInv
  kw := by decide +kernel
  oki := (gp_moves n).oki
  bdi _ _ := trivial
  invm := (gp_moves n).invm
  minv := (gp_moves n).minv
  inv2 h := mv_inv2 h
  invF h _ γ := back_mv h (by omega) γ
  lbF h _ γ := lback_mv h (by omega) γ

def P80 : Int := P60 * P20
def P70 : Int := P60 * P10
def lll : Str := S (List.replicate 100000 108)
def odds : List D := [.none, .bool true, .str "", .str "a", .str "abl", .str "m", .str "aB", .str "a b", .int 0, .int (-7), .int P80, .tuple [.int 1, .int 1], .tuple [.int 2, .int 4], .tuple [.int 2, .int 3]]
  ++ [.tuple [.int 3, .int 2], .tuple [.int 0, .int 1]]
  ++ [.tuple [.int 1, .int 0], .tuple [.int (-1), .int 2], .tuple [.int 0], .tuple [.int 1], .tuple [.int 0, .int 1, .int 2], .tuple [.int 2, .int 0, .int 1], .tuple [.int 0, .int 0], .tuple [.bool true, .int 1], .tuple [.int 0, .bool true], .tuple [], .list [], .dict []]
  ++ [.tuple [.int 5, .int 4, .int 3, .int 2, .int 1, .int 0], .tuple [.int 4, .int 3, .int 2, .int 1, .int 0], .list [.int 0, .int 1], .tuple [.str "a"], .tuple [.str "a", .str "b"], .tuple [.int 1, .int 2, .int 3], .tuple [.int 1, .none], .tuple [.str "0", .str "1"]]
def oddsL : List D := [.tuple [.int (P70 + 1), .int P70], .str lll]
theorem l_eq : ("l" : Str) = S [108] := by decide +kernel
theorem rep_l : mulD (.str "l") (.int 100000) = some (.str lll) := by
  have e1 : ("l" : Str).length = 1 := by decide +kernel
  have hb : inB 9223372036854775808 100000 = true := by decide
  have hz : 1 * (100000 : Int).toNat ≤ sizeLine := by decide
  have hr : repS "l" 100000 = lll := by
    unfold repS lll
    rw [l_eq]
    have : ∀ n : Nat, (List.replicate n [108]).flatten = List.replicate n 108 := by
      intro n
      induction n with
      | zero => rfl
      | succ n ih => rw [List.replicate_succ, List.flatten_cons, ih]; rfl
    exact congrArg S (this 100000)
  simp only [mulD, e1]
  rw [if_pos ⟨hb, hz⟩]
  exact congrArg (fun z => some (PyData.str z)) hr
theorem seq_nx {f g : Fst} {ρ ρ1 : Row} {γ γ1 : Bxs} {o : Option Oc} (h : f ρ γ = some (.nx ρ1 γ1)) (h2 : g ρ1 γ1 = o) : sSeq f g ρ γ = o := by
  rw [e_sSeq, h, ← h2]
  rfl
def o1 : List D := [.none, .bool true, .str "", .str "a", .str "abl", .str "m", .str "aB", .str "a b", .int 0, .int (-7), .int P80, .tuple [.int 1, .int 1], .tuple [.int 2, .int 4], .tuple [.int 2, .int 3]]
def o2 : List D := [.tuple [.int 3, .int 2], .tuple [.int 0, .int 1]]
def o3 : List D := [.tuple [.int 1, .int 0], .tuple [.int (-1), .int 2], .tuple [.int 0], .tuple [.int 1], .tuple [.int 0, .int 1, .int 2], .tuple [.int 2, .int 0, .int 1], .tuple [.int 0, .int 0], .tuple [.bool true, .int 1], .tuple [.int 0, .bool true], .tuple [], .list [], .dict []]
def o4 : List D := [.tuple [.int 5, .int 4, .int 3, .int 2, .int 1, .int 0], .tuple [.int 4, .int 3, .int 2, .int 1, .int 0], .list [.int 0, .int 1], .tuple [.str "a"], .tuple [.str "a", .str "b"], .tuple [.int 1, .int 2, .int 3], .tuple [.int 1, .none], .tuple [.str "0", .str "1"]]
theorem odd {n : Nat} {γ : Bxs} (h : Dc n γ) (hn : n ≤ 800000) : ∃ ds γ', F__law_odd [.bx 0] γ = some (.d (.list ds), γ') ∧ (∀ d ∈ ds, d ∈ odds ++ oddsL) ∧ ds.length ≤ 17 ∧ Dc (n + 60) γ' := by
  have hlen : (odds ++ oddsL).length = 38 := rfl
  obtain ⟨ys, γ1, e1, hp, d1⟩ := mixed (xs := odds ++ oddsL) h (by omega) (by rw [hlen]; omega)
  rw [hlen] at d1
  obtain ⟨r, γ2, e2, r0, r1, d2⟩ := roll d1 (by omega) (t := 38) (by omega) (by omega)
  have hr : r.toNat < (odds ++ oddsL).length := by rw [hlen]; omega
  have hy : ys.length = 38 := by rw [hp.length_eq, hlen]
  have hs : slD (.list ys) none (some 16) = some (.list (ys.take 16)) := by
    have := sIx_pos (n := ys.length) (d := ys.length) (m := 16) (by omega)
    simp only [slD, cutD]
    rw [show ((16 : Int)) = ((16 : Nat) : Int) from rfl, this, HT.sIx_none]
    rfl
  have hix : ixD (.list (odds ++ oddsL)) (.int r) = some ((odds ++ oddsL)[r.toNat]) := by
    have : ixN (odds ++ oddsL).length r = some r.toNat := by simp only [ixN, hlen]; rw [if_pos r0, if_pos (by omega)]
    simp only [ixD, atI, this, Option.bind_some, List.getElem?_eq_getElem hr]
  have z1 : (1 : Nat) ≤ sizeLine := by decide
  have z0 : (0 : Nat) ≤ sizeLine := by decide
  refine ⟨ys.take 16 ++ [(odds ++ oddsL)[r.toNat]], γ2, ?_, ?_, by simp; omega, d2.mono (by omega)⟩
  · have hb : ∀ ρ : Row, ((sSeq (sSet 1 (qE (f2 addD (fV 1) (fLst (fCons (fTup (fCons (f2 addD (f2 mulD (f2 powD (fC (.int 10)) (fC (.int 60))) (f2 powD (fC (.int 10)) (fC (.int 10)))) (fC (.int 1))) (fCons (f2 mulD (f2 powD (fC (.int 10)) (fC (.int 60))) (f2 powD (fC (.int 10)) (fC (.int 10)))) fNil))) (fCons (f2 mulD (fC (.str "l")) (fC (.int 100000))) fNil))))))
      (sRet (qE (f2 addD (fSl (fQ (qCall F__law_mixed (aB 0 (aE (fV 1) aNil)))) fNo (fPt (fC (.int 16)))) (fLst (fCons (f2 ixD (fV 1) (fQ (qCall F__law_roll (aB 0 (aE (fS lenD (fCons (fV 1) fNil)) aNil))))) fNil)))))) [.bx 0, .d (.list odds)] γ) = some (.rt (.d (.list (ys.take 16 ++ [(odds ++ oddsL)[r.toNat]]))) γ2) := by
      intro _
      have p60 : powD (.int 10) (.int 60) = some (.int P60) := by
        simp only [powD]
        rw [if_pos (by decide)]
        rfl
      have p10 : powD (.int 10) (.int 10) = some (.int P10) := by
        simp only [powD]
        rw [if_pos (by decide)]
        rfl
      have p70 : mulD (.int P60) (.int P10) = some (.int P70) := mulD_ok (sm (by unfold P60; omega) (by unfold P60; omega)) (sm (by unfold P10; omega) (by unfold P10; omega))
      have ha : addD (.list odds) (.list [.tuple [.int (P70 + 1), .int P70], .str lll]) = some (.list (odds ++ oddsL)) := by
        simp only [addD]
        rw [if_pos (by show (38 : Nat) ≤ sizeLine; decide)]
        rfl
      have ha2 : addD (.list (ys.take 16)) (.list [(odds ++ oddsL)[r.toNat]]) = some (.list (ys.take 16 ++ [(odds ++ oddsL)[r.toNat]])) := by
        simp only [addD]
        rw [if_pos (by rw [sizeLine_eq]; simp; omega)]
      have z2 : (2 : Nat) ≤ sizeLine := by decide
      generalize hX : (odds ++ oddsL)[r.toNat] = X at *
      generalize hL : odds ++ oddsL = L at *
      simp [p60, p10, p70, z2, rep_l, ha, aB, e1, z0, hs, hlen, e2, hix, z1, ha2]
    have hodds : odds.length = 36 := rfl
    have hf : f__law_odd [.bx 0, .un] γ = some (.rt (.d (.list (ys.take 16 ++ [(odds ++ oddsL)[r.toNat]]))) γ2) := by
      have p60 : powD (.int 10) (.int 60) = some (.int P60) := by
        simp only [powD]
        rw [if_pos (by decide)]
        rfl
      have p20 : powD (.int 10) (.int 20) = some (.int P20) := by
        simp only [powD]
        rw [if_pos (by decide)]
        rfl
      have p80 : mulD (.int P60) (.int P20) = some (.int P80) := mulD_ok (sm (by unfold P60; omega) (by unfold P60; omega)) (sm (by unfold P20; omega) (by unfold P20; omega))
      have a2 : ∀ xs ys : List D, xs.length + ys.length ≤ 100 → addD (.list xs) (.list ys) = some (.list (xs ++ ys)) := by
        intro xs ys hl
        simp only [addD]
        rw [if_pos (by rw [sizeLine_eq]; omega)]
      have le : ∀ k : Nat, k ≤ 100 → k ≤ sizeLine := fun k hk => by rw [sizeLine_eq]; omega
      have fd : ∀ ρ : Row, fDict0 ρ γ = some (.dict [], ρ, γ) := fun _ => rfl
      unfold f__law_odd
      refine seq_nx (ρ1 := [.bx 0, .d (.list o1)]) (γ1 := γ) (by simp [o1, p60, p20, p80, le]) ?_
      refine seq_nx (ρ1 := [.bx 0, .d (.list (o1 ++ o2))]) (γ1 := γ) (by
        have := a2 o1 o2 (by decide)
        simp only [o2] at this
        simp [o2, le, this]) ?_
      refine seq_nx (ρ1 := [.bx 0, .d (.list (o1 ++ o2 ++ o3))]) (γ1 := γ) (by
        have := a2 (o1 ++ o2) o3 (by decide)
        simp only [o3] at this
        generalize o1 ++ o2 = L at *
        simp [o3, le, this, fd]) ?_
      refine seq_nx (ρ1 := [.bx 0, .d (.list odds)]) (γ1 := γ) (by
        have := a2 (o1 ++ o2 ++ o3) o4 (by decide)
        have e : odds = o1 ++ o2 ++ o3 ++ o4 := rfl
        rw [e]
        simp only [o4] at this
        generalize o1 ++ o2 ++ o3 = L at *
        simp [o4, le, this]) ?_
      exact hb [.bx 0, .un]
    simp [F__law_odd, List.replicate_succ, hf]
  · intro d hd
    rcases List.mem_append.mp hd with z | z
    · exact hp.mem_iff.mp (List.mem_of_mem_take z)
    · rw [List.mem_singleton.mp z]; exact List.getElem_mem hr
end KK

namespace KK
open PySem L2 DL
theorem same_odd1 {kd : Str} (hk : kd = "words" ∨ kd = "sums" ∨ kd = "shares" ∨ kd = "moves") {d : D} (hd : d ∈ odds) (γ : Bxs) : ∃ u : Bool, F_is_value [.d (.str kd), .d d] γ = some (.d (.bool u), γ) ∧ F__law_is_value [.d (.str kd), .d d] γ = some (.d (.bool u), γ) := by
  · simp only [odds, List.mem_append, List.mem_cons, List.not_mem_nil, or_false] at hd
    rcases hk with rfl | rfl | rfl | rfl
    · rcases hd with (((rfl | rfl | rfl | rfl | rfl | rfl | rfl | rfl | rfl | rfl | rfl | rfl | rfl | rfl) | rfl | rfl) | rfl | rfl | rfl | rfl | rfl | rfl | rfl | rfl | rfl | rfl | rfl | rfl) | rfl | rfl | rfl | rfl | rfl | rfl | rfl | rfl
      · exact ⟨false, by kernel_rfl, by kernel_rfl⟩
      · exact ⟨false, by kernel_rfl, by kernel_rfl⟩
      · exact ⟨true, by kernel_rfl, by kernel_rfl⟩
      · exact ⟨true, by kernel_rfl, by kernel_rfl⟩
      · exact ⟨true, by kernel_rfl, by kernel_rfl⟩
      · exact ⟨false, by kernel_rfl, by kernel_rfl⟩
      · exact ⟨false, by kernel_rfl, by kernel_rfl⟩
      · exact ⟨false, by kernel_rfl, by kernel_rfl⟩
      · exact ⟨false, by kernel_rfl, by kernel_rfl⟩
      · exact ⟨false, by kernel_rfl, by kernel_rfl⟩
      · exact ⟨false, by kernel_rfl, by kernel_rfl⟩
      · exact ⟨false, by kernel_rfl, by kernel_rfl⟩
      · exact ⟨false, by kernel_rfl, by kernel_rfl⟩
      · exact ⟨false, by kernel_rfl, by kernel_rfl⟩
      · exact ⟨false, by kernel_rfl, by kernel_rfl⟩
      · exact ⟨false, by kernel_rfl, by kernel_rfl⟩
      · exact ⟨false, by kernel_rfl, by kernel_rfl⟩
      · exact ⟨false, by kernel_rfl, by kernel_rfl⟩
      · exact ⟨false, by kernel_rfl, by kernel_rfl⟩
      · exact ⟨false, by kernel_rfl, by kernel_rfl⟩
      · exact ⟨false, by kernel_rfl, by kernel_rfl⟩
      · exact ⟨false, by kernel_rfl, by kernel_rfl⟩
      · exact ⟨false, by kernel_rfl, by kernel_rfl⟩
      · exact ⟨false, by kernel_rfl, by kernel_rfl⟩
      · exact ⟨false, by kernel_rfl, by kernel_rfl⟩
      · exact ⟨false, by kernel_rfl, by kernel_rfl⟩
      · exact ⟨false, by kernel_rfl, by kernel_rfl⟩
      · exact ⟨false, by kernel_rfl, by kernel_rfl⟩
      · exact ⟨false, by kernel_rfl, by kernel_rfl⟩
      · exact ⟨false, by kernel_rfl, by kernel_rfl⟩
      · exact ⟨false, by kernel_rfl, by kernel_rfl⟩
      · exact ⟨false, by kernel_rfl, by kernel_rfl⟩
      · exact ⟨false, by kernel_rfl, by kernel_rfl⟩
      · exact ⟨false, by kernel_rfl, by kernel_rfl⟩
      · exact ⟨false, by kernel_rfl, by kernel_rfl⟩
      · exact ⟨false, by kernel_rfl, by kernel_rfl⟩
    · rcases hd with (((rfl | rfl | rfl | rfl | rfl | rfl | rfl | rfl | rfl | rfl | rfl | rfl | rfl | rfl) | rfl | rfl) | rfl | rfl | rfl | rfl | rfl | rfl | rfl | rfl | rfl | rfl | rfl | rfl) | rfl | rfl | rfl | rfl | rfl | rfl | rfl | rfl
      · exact ⟨false, by kernel_rfl, by kernel_rfl⟩
      · exact ⟨false, by kernel_rfl, by kernel_rfl⟩
      · exact ⟨false, by kernel_rfl, by kernel_rfl⟩
      · exact ⟨false, by kernel_rfl, by kernel_rfl⟩
      · exact ⟨false, by kernel_rfl, by kernel_rfl⟩
      · exact ⟨false, by kernel_rfl, by kernel_rfl⟩
      · exact ⟨false, by kernel_rfl, by kernel_rfl⟩
      · exact ⟨false, by kernel_rfl, by kernel_rfl⟩
      · exact ⟨true, by kernel_rfl, by kernel_rfl⟩
      · exact ⟨true, by kernel_rfl, by kernel_rfl⟩
      · exact ⟨true, by kernel_rfl, by kernel_rfl⟩
      · exact ⟨false, by kernel_rfl, by kernel_rfl⟩
      · exact ⟨false, by kernel_rfl, by kernel_rfl⟩
      · exact ⟨false, by kernel_rfl, by kernel_rfl⟩
      · exact ⟨false, by kernel_rfl, by kernel_rfl⟩
      · exact ⟨false, by kernel_rfl, by kernel_rfl⟩
      · exact ⟨false, by kernel_rfl, by kernel_rfl⟩
      · exact ⟨false, by kernel_rfl, by kernel_rfl⟩
      · exact ⟨false, by kernel_rfl, by kernel_rfl⟩
      · exact ⟨false, by kernel_rfl, by kernel_rfl⟩
      · exact ⟨false, by kernel_rfl, by kernel_rfl⟩
      · exact ⟨false, by kernel_rfl, by kernel_rfl⟩
      · exact ⟨false, by kernel_rfl, by kernel_rfl⟩
      · exact ⟨false, by kernel_rfl, by kernel_rfl⟩
      · exact ⟨false, by kernel_rfl, by kernel_rfl⟩
      · exact ⟨false, by kernel_rfl, by kernel_rfl⟩
      · exact ⟨false, by kernel_rfl, by kernel_rfl⟩
      · exact ⟨false, by kernel_rfl, by kernel_rfl⟩
      · exact ⟨false, by kernel_rfl, by kernel_rfl⟩
      · exact ⟨false, by kernel_rfl, by kernel_rfl⟩
      · exact ⟨false, by kernel_rfl, by kernel_rfl⟩
      · exact ⟨false, by kernel_rfl, by kernel_rfl⟩
      · exact ⟨false, by kernel_rfl, by kernel_rfl⟩
      · exact ⟨false, by kernel_rfl, by kernel_rfl⟩
      · exact ⟨false, by kernel_rfl, by kernel_rfl⟩
      · exact ⟨false, by kernel_rfl, by kernel_rfl⟩
    · rcases hd with (((rfl | rfl | rfl | rfl | rfl | rfl | rfl | rfl | rfl | rfl | rfl | rfl | rfl | rfl) | rfl | rfl) | rfl | rfl | rfl | rfl | rfl | rfl | rfl | rfl | rfl | rfl | rfl | rfl) | rfl | rfl | rfl | rfl | rfl | rfl | rfl | rfl
      · exact ⟨false, by kernel_rfl, by kernel_rfl⟩
      · exact ⟨false, by kernel_rfl, by kernel_rfl⟩
      · exact ⟨false, by kernel_rfl, by kernel_rfl⟩
      · exact ⟨false, by kernel_rfl, by kernel_rfl⟩
      · exact ⟨false, by kernel_rfl, by kernel_rfl⟩
      · exact ⟨false, by kernel_rfl, by kernel_rfl⟩
      · exact ⟨false, by kernel_rfl, by kernel_rfl⟩
      · exact ⟨false, by kernel_rfl, by kernel_rfl⟩
      · exact ⟨false, by kernel_rfl, by kernel_rfl⟩
      · exact ⟨false, by kernel_rfl, by kernel_rfl⟩
      · exact ⟨false, by kernel_rfl, by kernel_rfl⟩
      · exact ⟨true, by kernel_rfl, by kernel_rfl⟩
      · exact ⟨false, by kernel_rfl, by kernel_rfl⟩
      · exact ⟨true, by kernel_rfl, by kernel_rfl⟩
      · exact ⟨true, by kernel_rfl, by kernel_rfl⟩
      · exact ⟨false, by kernel_rfl, by kernel_rfl⟩
      · exact ⟨false, by kernel_rfl, by kernel_rfl⟩
      · exact ⟨false, by kernel_rfl, by kernel_rfl⟩
      · exact ⟨false, by kernel_rfl, by kernel_rfl⟩
      · exact ⟨false, by kernel_rfl, by kernel_rfl⟩
      · exact ⟨false, by kernel_rfl, by kernel_rfl⟩
      · exact ⟨false, by kernel_rfl, by kernel_rfl⟩
      · exact ⟨false, by kernel_rfl, by kernel_rfl⟩
      · exact ⟨false, by kernel_rfl, by kernel_rfl⟩
      · exact ⟨false, by kernel_rfl, by kernel_rfl⟩
      · exact ⟨false, by kernel_rfl, by kernel_rfl⟩
      · exact ⟨false, by kernel_rfl, by kernel_rfl⟩
      · exact ⟨false, by kernel_rfl, by kernel_rfl⟩
      · exact ⟨false, by kernel_rfl, by kernel_rfl⟩
      · exact ⟨false, by kernel_rfl, by kernel_rfl⟩
      · exact ⟨false, by kernel_rfl, by kernel_rfl⟩
      · exact ⟨false, by kernel_rfl, by kernel_rfl⟩
      · exact ⟨false, by kernel_rfl, by kernel_rfl⟩
      · exact ⟨false, by kernel_rfl, by kernel_rfl⟩
      · exact ⟨false, by kernel_rfl, by kernel_rfl⟩
      · exact ⟨false, by kernel_rfl, by kernel_rfl⟩
    · rcases hd with (((rfl | rfl | rfl | rfl | rfl | rfl | rfl | rfl | rfl | rfl | rfl | rfl | rfl | rfl) | rfl | rfl) | rfl | rfl | rfl | rfl | rfl | rfl | rfl | rfl | rfl | rfl | rfl | rfl) | rfl | rfl | rfl | rfl | rfl | rfl | rfl | rfl
      · exact ⟨false, by kernel_rfl, by kernel_rfl⟩
      · exact ⟨false, by kernel_rfl, by kernel_rfl⟩
      · exact ⟨false, by kernel_rfl, by kernel_rfl⟩
      · exact ⟨false, by kernel_rfl, by kernel_rfl⟩
      · exact ⟨false, by kernel_rfl, by kernel_rfl⟩
      · exact ⟨false, by kernel_rfl, by kernel_rfl⟩
      · exact ⟨false, by kernel_rfl, by kernel_rfl⟩
      · exact ⟨false, by kernel_rfl, by kernel_rfl⟩
      · exact ⟨false, by kernel_rfl, by kernel_rfl⟩
      · exact ⟨false, by kernel_rfl, by kernel_rfl⟩
      · exact ⟨false, by kernel_rfl, by kernel_rfl⟩
      · exact ⟨false, by kernel_rfl, by kernel_rfl⟩
      · exact ⟨false, by kernel_rfl, by kernel_rfl⟩
      · exact ⟨false, by kernel_rfl, by kernel_rfl⟩
      · exact ⟨false, by kernel_rfl, by kernel_rfl⟩
      · exact ⟨true, by kernel_rfl, by kernel_rfl⟩
      · exact ⟨true, by kernel_rfl, by kernel_rfl⟩
      · exact ⟨false, by kernel_rfl, by kernel_rfl⟩
      · exact ⟨true, by kernel_rfl, by kernel_rfl⟩
      · exact ⟨false, by kernel_rfl, by kernel_rfl⟩
      · exact ⟨true, by kernel_rfl, by kernel_rfl⟩
      · exact ⟨true, by kernel_rfl, by kernel_rfl⟩
      · exact ⟨false, by kernel_rfl, by kernel_rfl⟩
      · exact ⟨false, by kernel_rfl, by kernel_rfl⟩
      · exact ⟨false, by kernel_rfl, by kernel_rfl⟩
      · exact ⟨false, by kernel_rfl, by kernel_rfl⟩
      · exact ⟨false, by kernel_rfl, by kernel_rfl⟩
      · exact ⟨false, by kernel_rfl, by kernel_rfl⟩
      · exact ⟨false, by kernel_rfl, by kernel_rfl⟩
      · exact ⟨true, by kernel_rfl, by kernel_rfl⟩
      · exact ⟨false, by kernel_rfl, by kernel_rfl⟩
      · exact ⟨false, by kernel_rfl, by kernel_rfl⟩
      · exact ⟨false, by kernel_rfl, by kernel_rfl⟩
      · exact ⟨false, by kernel_rfl, by kernel_rfl⟩
      · exact ⟨false, by kernel_rfl, by kernel_rfl⟩
      · exact ⟨false, by kernel_rfl, by kernel_rfl⟩

end KK

namespace KK
open PySem L2 DL
theorem same_odd2 {kd : Str} (hk : kd = "words" ∨ kd = "sums" ∨ kd = "shares" ∨ kd = "moves") (γ : Bxs) : ∃ u : Bool, F_is_value [.d (.str kd), .d (.tuple [.int (P70 + 1), .int P70])] γ = some (.d (.bool u), γ) ∧ F__law_is_value [.d (.str kd), .d (.tuple [.int (P70 + 1), .int P70])] γ = some (.d (.bool u), γ) := by
  · rcases hk with rfl | rfl | rfl | rfl
    · exact ⟨false, by kernel_rfl, by kernel_rfl⟩
    · exact ⟨false, by kernel_rfl, by kernel_rfl⟩
    · exact ⟨true, by kernel_rfl, by kernel_rfl⟩
    · exact ⟨false, by kernel_rfl, by kernel_rfl⟩
theorem items_S (w : W) : itemsD (.str (S w)) = some (w.map fun c => .str (S [c])) := rfl
theorem same_word (w : W) (hl : w.length ≤ 100000) (hin : ∀ c ∈ w, c ∈ LET) (γ : Bxs) : F_is_value [.d (.str "words"), .d (.str (S w))] γ = some (.d (.bool true), γ) ∧ F__law_is_value [.d (.str "words"), .d (.str (S w))] γ = some (.d (.bool true), γ) := by
  have e1 : (List.all w fun c => decide (c ∈ LET)) = true := by rw [List.all_eq_true]; intro c hc; exact decide_eq_true (hin c hc)
  have w1 := letters (w := w) (by omega) γ
  have w2 := word (w := w) hl hin γ
  have c2 := lcL_fm (i := 3) (ft := fBl (f2 notInD (fV 3) (fV 2))) (fe := fC (.int 1)) (ρ := [.d (.str "words"), .d (.str (S w)), .d (.str "abcdefghijkl"), .un, .un]) (γ := γ) rfl (fun c => .str (S [c])) (fun c => !decide (c ∈ LET)) (fun _ => .int 1) w [] (fun c _ => ⟨by simp [notInD, let_eq, inD], fun _ => rfl⟩) (by rw [sizeLine_eq]; simp; omega)
  have ff : w.filter (fun c => !decide (c ∈ LET)) = [] := by
    rw [List.filter_eq_nil_iff]
    intro c hc
    simp [hin c hc]
  rw [e1] at w1
  rw [ff] at c2
  have hi := items_S w
  refine ⟨?_, ?_⟩
  · simp [F_is_value, f_is_value, List.replicate_succ, req_kind (Or.inl rfl), F_is_value_in, f_is_value_in, w1, w2]
  · simp only [List.map_nil, List.append_nil] at c2
    simp [F__law_is_value, f__law_is_value, List.replicate_succ, qLc, iE, hi, unS, c2, e_eqL0]
theorem same_str (x : Str) (γ : Bxs) {kd : Str} (hk : kd = "sums" ∨ kd = "shares" ∨ kd = "moves") : F_is_value [.d (.str kd), .d (.str x)] γ = some (.d (.bool false), γ) ∧ F__law_is_value [.d (.str kd), .d (.str x)] γ = some (.d (.bool false), γ) := by
  rcases hk with rfl | rfl | rfl
  · exact ⟨by simp [F_is_value, f_is_value, List.replicate_succ, req_kind (Or.inr (Or.inl rfl)), F_is_value_in, f_is_value_in, whole, isWh], by simp [F__law_is_value, f__law_is_value, List.replicate_succ]⟩
  · exact ⟨by simp [F_is_value, f_is_value, List.replicate_succ, req_kind (Or.inr (Or.inr (Or.inl rfl))), F_is_value_in, f_is_value_in, F_is_share, f_is_share, pair, isPr], by simp [F__law_is_value, f__law_is_value, List.replicate_succ]⟩
  · exact ⟨by simp [F_is_value, f_is_value, List.replicate_succ, req_kind (Or.inr (Or.inr (Or.inr rfl))), F_is_value_in, f_is_value_in, F_is_move, f_is_move], by simp [F__law_is_value, f__law_is_value, List.replicate_succ]⟩
theorem same_odd3 {kd : Str} (hk : kd = "words" ∨ kd = "sums" ∨ kd = "shares" ∨ kd = "moves") (γ : Bxs) : ∃ u : Bool, F_is_value [.d (.str kd), .d (.str lll)] γ = some (.d (.bool u), γ) ∧ F__law_is_value [.d (.str kd), .d (.str lll)] γ = some (.d (.bool u), γ) := by
  rcases hk with rfl | hk
  · exact ⟨true, same_word (List.replicate 100000 108) (Nat.le_of_eq List.length_replicate) (fun c hc => by rw [List.eq_of_mem_replicate hc]; decide) γ⟩
  · exact ⟨false, same_str lll γ hk⟩
theorem same_odd {kd : Str} (hk : kd = "words" ∨ kd = "sums" ∨ kd = "shares" ∨ kd = "moves") {d : D} (hd : d ∈ odds ++ oddsL) (γ : Bxs) : ∃ u : Bool, F_is_value [.d (.str kd), .d d] γ = some (.d (.bool u), γ) ∧ F__law_is_value [.d (.str kd), .d d] γ = some (.d (.bool u), γ) := by
  rcases List.mem_append.mp hd with hd | hd
  · exact same_odd1 hk hd γ
  · simp only [oddsL, List.mem_cons, List.not_mem_nil, or_false] at hd
    rcases hd with rfl | rfl
    · exact same_odd2 hk γ
    · exact same_odd3 hk γ
end KK

namespace KK
open PySem L2 DL

theorem pw60 : powD (.int 10) (.int 60) = some (.int P60) := by
  simp only [powD]
  rw [if_pos (by decide)]
  rfl
theorem pw30 : powD (.int 10) (.int 30) = some (.int P30) := by
  simp only [powD]
  rw [if_pos (by decide)]
  rfl
theorem pw12 : powD (.int 10) (.int 12) = some (.int 1000000000000) := by
  simp only [powD]
  rw [if_pos (by decide)]
  rfl
theorem pw90 : mulD (.int P60) (.int P30) = some (.int P90) := mulD_ok (sm (by unfold P60; omega) (by unfold P60; omega)) (sm (by unfold P30; omega) (by unfold P30; omega))
theorem rep_bool (b : Bool) : ∃ s, reprD [.bool b] = some (.str s) := ⟨(PyData.bool b).shown, by
  simp only [reprD]
  rw [if_pos ⟨rfl, rfl, rfl, by show (0 : Nat) ≤ 60; decide, by show (5 : Nat) ≤ 16777216; decide⟩]⟩
section
variable {kd : Str} {size most : Int} {G : Type} (g : MK kd size most G)
theorem MK.undo (i : MI g) {a : G} (h : g.ok a) (hb : g.bd 1600 a) (γ : Bxs) : F_undone [.d (.str kd), .d (g.enc a)] γ = some (.d (g.enc (i.inv a)), γ) := by
  have hv := g.vals (vals := .list [g.enc a]) (ds := [a]) rfl (by simp [h, g.bdw hb (show 1600 ≤ 3200 by omega)]) (by simp) γ
  have z1 : (1 : Nat) ≤ sizeLine := by decide
  simp [F_undone, f_undone, List.replicate_succ, req_kind g.kk, hv, i.kw, i.invF h hb, z1]
/-- products of the parts -/
theorem MK.split {vs : List G} (h : ∀ v ∈ vs, g.ok v) (j : Nat) : g.mul ((vs.take j).foldl g.mul g.one) ((vs.drop j).foldl g.mul g.one) = vs.foldl g.mul g.one := by
  have h1 : ∀ v ∈ vs.take j, g.ok v := fun v hv => h v (List.mem_of_mem_take hv)
  have h2 : ∀ v ∈ vs.drop j, g.ok v := fun v hv => h v (List.mem_of_mem_drop hv)
  have o1 := g.fold_ok g.ok1 h1
  rw [← g.fold_mul o1 g.ok1 h2, g.mone o1]
  conv => rhs; rw [← List.take_append_drop j vs]
  rw [List.foldl_append]
theorem MK.prP {vs : List G} (h : ∀ v ∈ vs, g.ok v) (hb : Bds g.bd vs 1500) (h0 : vs ≠ []) (hl : vs.length ≤ 10) (γ : Bxs) : F_product_of [.d (.str kd), .d (.tuple (vs.map g.enc))] γ = some (.d (g.enc (vs.foldl g.mul g.one)), γ) := by
  cases vs with
  | nil => exact absurd rfl h0
  | cons v vs =>
    have hv := h v List.mem_cons_self
    rw [List.foldl_cons, g.onem hv]
    exact g.prF hv (fun a ha => h a (List.mem_cons_of_mem _ ha)) (by simp at hl; omega) (hb.mono (by omega)) γ
end
theorem right {kd : Str} (kk : kd = "words" ∨ kd = "sums" ∨ kd = "shares" ∨ kd = "moves") (ks : ∀ (size : Nat) (most : Int), 1 ≤ size → size ≤ 5 → moOk most → ∃ (G : Type) (g : MK kd size most G), kd = "words" ∨ Nonempty (MI g)) {n : Nat} {γ : Bxs} (h : Dc n γ) (hn : n ≤ 500000) : ∃ γ', F__law_right [.bx 0, .d (.str kd)] γ = some (.d (.bool true), γ') ∧ Dc (n + 400) γ' := by
  obtain ⟨r, γ1, e1, r0, r1, d1⟩ := roll h (by omega) (t := 5) (by decide) (by decide)
  obtain ⟨mo, γ2, e2, hmo, d2⟩ := pick_list d1 (by omega) (ds := [.int 3, .int 1000000000000, .int P90]) (by simp) (by decide)
  obtain ⟨most, rfl, hm⟩ : ∃ most, mo = .int most ∧ moOk most := by
    simp only [List.mem_cons, List.not_mem_nil, or_false] at hmo
    rcases hmo with rfl | rfl | rfl
    · exact ⟨3, rfl, Or.inl rfl⟩
    · exact ⟨_, rfl, Or.inr (Or.inl (by decide))⟩
    · exact ⟨P90, rfl, Or.inr (Or.inr rfl)⟩
  obtain ⟨size, hs, s1, s5⟩ : ∃ size : Nat, 1 + r = (size : Int) ∧ 1 ≤ size ∧ size ≤ 5 := ⟨(1 + r).toNat, by omega, by omega, by omega⟩
  obtain ⟨G, g, hg⟩ := ks size most s1 s5 hm
  obtain ⟨q, γ3, e3, q0, q1, d3⟩ := roll d2 (by omega) (t := 7) (by decide) (by decide)
  obtain ⟨k, hk, k1, k7⟩ : ∃ k : Nat, 1 + q = (k : Int) ∧ 1 ≤ k ∧ k ≤ 7 := ⟨(1 + q).toNat, by omega, by omega, by omega⟩
  obtain ⟨vs, γ4, e4, l4, o4, b4, d4⟩ := g.draws k k7 d3 (by omega)
  obtain ⟨ds, γ5, e5, hds, hl5, d5⟩ := odd d4 (by omega)
  obtain ⟨p, γ6, e6, p0, p1, d6⟩ := roll d5 (by omega) (t := k) (by omega) (by omega)
  obtain ⟨at', ha, a1, ak⟩ : ∃ at' : Nat, 1 + p = (at' : Int) ∧ 1 ≤ at' ∧ at' ≤ k := ⟨(1 + p).toNat, by omega, by omega, by omega⟩
  have rg := rg_iD k (by omega)
  have vne : vs ≠ [] := fun z => by rw [z] at l4; simp at l4; omega
  have pd := g.fold_ok g.ok1 o4
  have bdp := g.bdw (g.fold_bd g.ok1 o4 g.bd1 b4) (show 0 + 1500 ≤ 1500 by omega)
  have pP := g.prP o4 b4 vne (by omega)
  have lP := g.lawP o4 b4 (by omega)
  have sp := g.split o4 at'
  have v0 : ∃ v0, vs[0]? = some v0 ∧ g.ok v0 ∧ g.bd 3200 v0 := by
    cases vs with
    | nil => exact absurd rfl vne
    | cons v vs => exact ⟨v, rfl, o4 v List.mem_cons_self, g.bdw (Bds.mem (bd := g.bd) (fun a m k => g.bdw) b4 v List.mem_cons_self) (by omega)⟩
  obtain ⟨v0, hv0, ov0, bv0⟩ := v0
  have ix0 : ixD (.tuple (vs.map g.enc)) (.int 0) = some (g.enc v0) := by
    have hl : 0 < vs.length := by omega
    have : (0 : Int) < ((vs.map g.enc).length : Int) := by simp; omega
    simp [ixD, atI, ixN, hl, List.getElem?_eq_some_iff.mp hv0]
    exact congrArg g.enc (by
      have := (List.getElem?_eq_some_iff.mp hv0).2
      exact this)
  generalize hdue : vs.foldl g.mul g.one = due at *
  obtain ⟨sd, hsd⟩ := g.rep pd bdp
  obtain ⟨s1', hs1⟩ := g.rep g.ok1 (g.bdw g.bd1 (by omega))
  have c1 : lcL [6] (gN 6) (fBl (f2 isNBD (fQ (qCall F_is_value (aE (fV 1) (aE (fV 6) aNil)))) (fC (.bool true)))) (fC (.int 1)) (vs.map g.enc) [] [.bx 0, .d (.str kd), .d (.int size), .d (.int most), .d (.tuple (vs.map g.enc)), .un, .un, .un, .un, .un, .un] γ4 = some ([], [.bx 0, .d (.str kd), .d (.int size), .d (.int most), .d (.tuple (vs.map g.enc)), .un, .un, .un, .un, .un, .un], γ4) := by
    have := lcL_fm (i := 6) (ft := (fBl (f2 isNBD (fQ (qCall F_is_value (aE (fV 1) (aE (fV 6) aNil)))) (fC (.bool true))))) (fe := fC (.int 1)) (ρ := [.bx 0, .d (.str kd), .d (.int size), .d (.int most), .d (.tuple (vs.map g.enc)), .un, .un, .un, .un, .un, .un]) (γ := γ4) rfl g.enc (fun _ => false) (fun _ => .none) vs [] (fun v hv => by
      have hb := g.bdw (Bds.mem (bd := g.bd) (fun a m k => g.bdw) b4 v hv) (show 1500 ≤ 3200 by omega)
      refine ⟨?_, fun z => nomatch z⟩
      simp [g.isv (o4 v hv) hb]) (by rw [sizeLine_eq]; simp; omega)
    have ff : vs.filter (fun _ => false) = [] := by simp
    rw [ff] at this
    exact this
  have c2 : lcL [6] (gN 6) (fBl (f2 neD (fS reprD (fCons (fQ (qCall F_is_value (aE (fV 1) (aE (fV 6) aNil)))) fNil)) (fS reprD (fCons (fQ (qCall F__law_is_value (aE (fV 1) (aE (fV 6) aNil)))) fNil)))) (fV 6) ds [] [.bx 0, .d (.str kd), .d (.int size), .d (.int most), .d (.tuple (vs.map g.enc)), .un, .un, .un, .un, .un, .un] γ5 = some ([], [.bx 0, .d (.str kd), .d (.int size), .d (.int most), .d (.tuple (vs.map g.enc)), .un, .un, .un, .un, .un, .un], γ5) := by
    have := lcL_pure (i := 6) (ft := (fBl (f2 neD (fS reprD (fCons (fQ (qCall F_is_value (aE (fV 1) (aE (fV 6) aNil)))) fNil)) (fS reprD (fCons (fQ (qCall F__law_is_value (aE (fV 1) (aE (fV 6) aNil)))) fNil))))) (fe := fV 6) (ρ := [.bx 0, .d (.str kd), .d (.int size), .d (.int most), .d (.tuple (vs.map g.enc)), .un, .un, .un, .un, .un, .un]) (γ := γ5) rfl (fun _ => false) (fun _ => .none) ds [] (fun d hd => by
      obtain ⟨u, u1, u2⟩ := same_odd kk (hds d hd) γ5
      obtain ⟨s, hs⟩ := rep_bool u
      refine ⟨?_, fun z => nomatch z⟩
      simp [u1, u2, hs]) (by rw [sizeLine_eq]; simp; omega)
    have ff : ds.filter (fun _ => false) = [] := by simp
    rw [ff] at this
    exact this
  have z0 : (0 : Nat) ≤ sizeLine := Nat.zero_le _
  have z2 : (2 : Nat) ≤ sizeLine := by decide
  have z3 : (3 : Nat) ≤ sizeLine := by decide
  have lenV : lenD [.tuple (vs.map g.enc)] = some (.int (k : Int)) := by rw [e_lenT]; simp [l4]
  have u0 := fun γ => g.ul ov0 bv0 γ
  have uni := g.uniF
  have ud := fun γ => g.ul pd (g.bdw bdp (show 1500 ≤ 3200 by omega)) γ
  have x1 := fun γ => g.pr2 g.ok1 pd g.bd1 bdp (by omega) γ
  have x2 := fun γ => g.pr2 pd g.ok1 bdp g.bd1 (by omega) γ
  simp only [g.onem pd, g.mone pd] at x1 x2
  have nT := g.neT pd
  have nI := g.eqT g.ok1
  have fin : ∀ o : Prop, o → o := fun _ h => h
  refine ⟨γ6, ?_, d6.mono (by omega)⟩
  have iFacts : ∀ i : MI g, (∀ γ, F_undone [.d (.str kd), .d (g.enc due)] γ = some (.d (g.enc (i.inv due)), γ)) ∧ (∀ γ, F_undone [.d (.str kd), .d (g.enc (i.inv due))] γ = some (.d (g.enc due), γ)) ∧ (∀ γ, F__law_back [.d (.str kd), .d (g.enc due)] γ = some (.d (g.enc (i.inv due)), γ)) ∧ (∃ si, reprD [g.enc (i.inv due)] = some (.str si)) ∧
      (∀ γ, F_product_of [.d (.str kd), .d (.tuple [g.enc due, g.enc (i.inv due)])] γ = some (.d (g.enc g.one), γ)) ∧ (∀ γ, F_product_of [.d (.str kd), .d (.tuple [g.enc (i.inv due), g.enc due])] γ = some (.d (g.enc g.one), γ)) := fun i => by
    have iv := fun γ => g.undo i pd (g.bdw bdp (by omega)) γ
    have oi := i.oki pd
    have bi := i.bdi pd bdp
    have iv2 := fun γ => g.undo i oi (g.bdw bi (by omega)) γ
    rw [i.inv2 pd] at iv2
    have lb := fun γ => i.lbF pd (g.bdw bdp (by omega)) γ
    have y1 := fun γ => g.pr2 pd oi bdp bi (by omega) γ
    have y2 := fun γ => g.pr2 oi pd bi bdp (by omega) γ
    rw [i.minv pd] at y1
    rw [i.invm pd] at y2
    exact ⟨iv, iv2, lb, g.rep oi bi, y1, y2⟩
  by_cases hlt : at' < k
  · have h1 : ∀ v ∈ vs.take at', g.ok v := fun v hv => o4 v (List.mem_of_mem_take hv)
    have h2 : ∀ v ∈ vs.drop at', g.ok v := fun v hv => o4 v (List.mem_of_mem_drop hv)
    have n1 : vs.take at' ≠ [] := fun z => by
      have := congrArg List.length z
      rw [List.length_take, List.length_nil] at this; omega
    have n2 : vs.drop at' ≠ [] := fun z => by
      have := congrArg List.length z
      rw [List.length_drop, List.length_nil] at this; omega
    have q1 := g.prP h1 (b4.take at') n1 (by simp; omega) γ6
    have q2 := g.prP h2 (b4.drop at') n2 (by simp; omega) γ6
    have ob1 := g.fold_ok g.ok1 h1
    have ob2 := g.fold_ok g.ok1 h2
    have bb1 := g.fold_bd g.ok1 h1 g.bd1 (b4.take at')
    have bb2 := g.fold_bd g.ok1 h2 g.bd1 (b4.drop at')
    have q3 := g.pr2 ob1 ob2 bb1 bb2 (by omega) γ6
    rw [sp] at q3
    have sa := e_slb (ds := vs.map g.enc) (l := at') (by simp; omega)
    have sb := e_sla (ds := vs.map g.enc) (l := at') (by simp; omega)
    rw [List.map_take] at q1
    rw [List.map_drop] at q2
    have hlt' : (at' : Int) < (k : Int) := by omega
    rcases hg with rfl | ⟨⟨i⟩⟩
    · simp [F__law_right, f__law_right, List.replicate_succ, aB, gT, gsC, gsN, e1, hs, pw60, pw30, pw12, pw90, e2, z3, iR, e3, hk, rg, qLc, unS, e4, iE, itemsD, c1, e_neL0, e5, c2, lP, lenV, e6, ha, pP, hsd, ix0, u0, uni, hs1, ud, x1, x2, nT, z0, z2, hlt', hlt, sa, sb, q1, q2, q3]
    · obtain ⟨iv, iv2, lb, ⟨si, hsi⟩, y1, y2⟩ := iFacts i
      simp [F__law_right, f__law_right, List.replicate_succ, aB, gT, gsC, gsN, e1, hs, pw60, pw30, pw12, pw90, e2, z3, iR, e3, hk, rg, qLc, unS, e4, iE, itemsD, c1, e_neL0, e5, c2, lP, lenV, e6, ha, pP, hsd, ix0, u0, uni, hs1, ud, x1, x2, nT, z0, z2, hlt', hlt, sa, sb, q1, q2, q3, i.kw, iv, iv2, lb, hsi, y1, y2, nI]
  · have hlt' : ¬ (at' : Int) < (k : Int) := by omega
    rcases hg with rfl | ⟨⟨i⟩⟩
    · simp [F__law_right, f__law_right, List.replicate_succ, aB, gT, gsC, gsN, e1, hs, pw60, pw30, pw12, pw90, e2, z3, iR, e3, hk, rg, qLc, unS, e4, iE, itemsD, c1, e_neL0, e5, c2, lP, lenV, e6, ha, pP, hsd, ix0, u0, uni, hs1, ud, x1, x2, nT, z0, z2, hlt', hlt]
    · obtain ⟨iv, iv2, lb, ⟨si, hsi⟩, y1, y2⟩ := iFacts i
      simp [F__law_right, f__law_right, List.replicate_succ, aB, gT, gsC, gsN, e1, hs, pw60, pw30, pw12, pw90, e2, z3, iR, e3, hk, rg, qLc, unS, e4, iE, itemsD, c1, e_neL0, e5, c2, lP, lenV, e6, ha, pP, hsd, ix0, u0, uni, hs1, ud, x1, x2, nT, z0, z2, hlt', hlt, i.kw, iv, iv2, lb, hsi, y1, y2, nI]
theorem dice {ns : List Int} (hl : ns.length ≤ 63) {spot : Nat} (hs : spot ≤ 2) (γ : Bxs) : ∃ a b : Int, F__law_dice [.d (.list (ns.map .int)), .d (.int spot)] γ = some (.ol [.int a, .int b, .int 0], γ) ∧ Dc 0 [[.int a, .int b, .int 0]] := by
  obtain ⟨cell, hc⟩ : ∃ cell : Int, (fIf (fBl (f2 ltD (fV 1) (fS lenD (fCons (fV 0) fNil)))) (fS intD (fCons (f2 ixD (fV 0) (fV 1)) fNil)) (f2 addD (f2 mulD (fC (.int 83)) (fV 1)) (fC (.int 29)))) [.d (.list (ns.map .int)), .d (.int spot), .un, .un] γ = some (.int cell, [.d (.list (ns.map .int)), .d (.int spot), .un, .un], γ) := by
    by_cases h : spot < ns.length
    · refine ⟨ns[spot], ?_⟩
      have h' : (spot : Int) < (ns.length : Int) := by omega
      simp [h, ixD, atI, ixN]
    · have m1 : mulD (.int 83) (.int spot) = some (.int (83 * spot)) := mulD_ok (by decide) (sm (by omega) (by omega))
      refine ⟨83 * spot + 29, ?_⟩
      simp [h, m1]
  have p16 : powD (.int 10) (.int 16) = some (.int 10000000000000000) := by
    simp only [powD]
    rw [if_pos (by decide)]
    rfl
  have m60 : mulD (.int P60) (.int P60) = some (.int (P60 * P60)) := mulD_ok (sm (by unfold P60; omega) (by unfold P60; omega)) (sm (by unfold P60; omega) (by unfold P60; omega))
  have pp : P60 * P60 = 10 ^ 120 := by unfold P60; rfl
  have hp : (0 : Int) < P60 * P60 := by rw [pp]; decide
  generalize hA : (if cell < 0 then -cell else cell) = A
  have A0 : 0 ≤ A := by rw [← hA]; split <;> omega
  have ab : absD [.int cell] = some (.int A) := by simp only [absD, hA]
  generalize hM : (if A - 10000000000000000 > 0 then A - 10000000000000000 else 0) = M
  have mx : max2D [.int 0, .int (A - 10000000000000000)] = some (.int M) := by simp only [max2D, hM]
  generalize hX : A % 1152921504606846883 = x
  have x0 : 0 ≤ x := by rw [← hX]; exact Int.emod_nonneg _ (by decide)
  have x1 : x < 1152921504606846883 := by rw [← hX]; exact Int.emod_lt_of_pos _ (by decide)
  have q1 : modD (.int A) (.int 1152921504606846883) = some (.int x) := by rw [modD_ok (by decide), hX]
  have q2 : modD (.int M) (.int (P60 * P60)) = some (.int (M % (P60 * P60))) := modD_ok hp
  have m2 : mulD (.int x) (.int 47) = some (.int (x * 47)) := mulD_ok (sm (by omega) (by omega)) (by decide)
  have m3 : mulD (.int 907) (.int spot) = some (.int (907 * spot)) := mulD_ok (by decide) (sm (by omega) (by omega))
  have m4 : ∀ b : Bool, mulD (.int 41) (.int (if b then 1 else 0)) = some (.int (41 * (if b then 1 else 0))) := fun b => mulD_ok (by decide) (by cases b <;> decide)
  have z3 : (3 : Nat) ≤ sizeLine := by decide
  refine ⟨M % (P60 * P60), x * 47 + 907 * spot + 41 * (if decide (cell < 0) then 1 else 0) + 13, ?_, _, _, _, rfl, Int.emod_nonneg _ (by omega), ?_, ?_, ?_, by decide, by decide⟩
  · simp only [F__law_dice, f__law_dice, e_fnOf, List.length_cons, List.length_nil, List.cons_append, List.nil_append, List.replicate_succ, List.replicate_zero, e_sSeq, e_sSet, e_qE, hc, Nat.zero_add, Nat.reduceAdd, Nat.reduceSub]
    have m4' := m4 (decide (cell < 0))
    simp [ab, p16, mx, pw60, m60, q2, q1, m2, m3, z3]
    simp at m4'
    simp [m4', z3]
  · have := Int.emod_lt_of_pos M hp
    rw [pp] at this ⊢
    exact this
  · split <;> omega
  · split <;> omega
end KK

namespace KK
open PySem L2 DL

theorem right_of {kd : Str} (hk : kd = "words" ∨ kd = "sums" ∨ kd = "shares" ∨ kd = "moves") {n : Nat} {γ : Bxs} (h : Dc n γ) (hn : n ≤ 500000) : ∃ γ', F__law_right [.bx 0, .d (.str kd)] γ = some (.d (.bool true), γ') ∧ Dc (n + 400) γ' := by
  refine right hk (fun size most s1 s5 hm => ?_) h hn
  rcases hk with rfl | rfl | rfl | rfl
  · exact ⟨W, kWords size s5 most, Or.inl rfl⟩
  · exact ⟨Int, kSums size s5 most hm, Or.inr ⟨iSums size s5 most hm⟩⟩
  · exact ⟨Fr, kShares size s5 most hm, Or.inr ⟨iShares size s5 most hm⟩⟩
  · exact ⟨W, kMoves size s1 s5 most, Or.inr ⟨iMoves size s1 s5 most⟩⟩
theorem good (ns : List Int) (hl : ns.length ≤ 63) : ∃ γ, F_law [.d (.list (ns.map .int))] [] = some (.d (.bool true), γ) := by
  have kinds : ∀ (k : D), k ∈ ([.str "words", .str "sums", .str "shares", .str "moves"] : List D) → ∀ {n : Nat} {γ : Bxs}, Dc n γ → n ≤ 500000 → ∃ γ', F__law_right [.bx 0, .d k] γ = some (.d (.bool true), γ') ∧ Dc (n + 400) γ' := by
    intro k hk n γ h hn
    simp only [List.mem_cons, List.not_mem_nil, or_false] at hk
    rcases hk with rfl | rfl | rfl | rfl
    · exact right_of (Or.inl rfl) h hn
    · exact right_of (Or.inr (Or.inl rfl)) h hn
    · exact right_of (Or.inr (Or.inr (Or.inl rfl))) h hn
    · exact right_of (Or.inr (Or.inr (Or.inr rfl))) h hn
  let body : Fst := (sIf (fOrT (fNotT (fTru (fQ (qCallO F__law_right 2 (aE (fV 3) aNil))))) (fNotT (fTru (fQ (qCallO F__law_right 2 (aE (fV 3) aNil)))))) (sRet (qE (fC (.bool false)))) sNext)
  have inner : ∀ (s1 s3 : Sl) (xs : List D), Dc 0 [xs] → ∃ ρ' γ', forL (gN 3) body [.str "words", .str "sums", .str "shares", .str "moves"] [.d (.list (ns.map .int)), s1, .ol xs, s3, .un] [] = some (.nx ρ' γ') ∧ γ' = [] ∧ ∃ t2 t3, ρ' = [.d (.list (ns.map .int)), s1, t2, t3, .un] := by
    intro s1 s3 xs hd
    obtain ⟨ρ', γ', e, hg, ys, t3, hr, _⟩ := forL_inv (i := 3) (fb := body) (fun k ρ γ => γ = [] ∧ ∃ ys t3, ρ = [.d (.list (ns.map .int)), s1, .ol ys, t3, .un] ∧ Dc (1000 * k) [ys]) [.str "words", .str "sums", .str "shares", .str "moves"] 0 [.d (.list (ns.map .int)), s1, .ol xs, s3, .un] []
      (fun j d ρ γ hj ⟨eg, ys, t3, er, dc⟩ => by
        subst eg er
        have hj5 : j < 4 := by
          have := (List.getElem?_eq_some_iff.mp hj).1
          simpa using this
        obtain ⟨γ1, f1, d1⟩ := kinds d (List.mem_of_getElem? hj) dc (by omega)
        obtain ⟨a, b, c, rfl, _⟩ := id d1
        obtain ⟨γ2, f2, d2⟩ := kinds d (List.mem_of_getElem? hj) d1 (by omega)
        obtain ⟨a', b', c', rfl, _⟩ := id d2
        refine ⟨[.d (.list (ns.map .int)), s1, .ol [.int a', .int b', .int c'], .d d, .un], [], ?_, rfl, _, _, rfl, d2.mono (by omega)⟩
        simp [body, qCallO, f1, f2]) ⟨rfl, _, _, rfl, hd⟩
    exact ⟨ρ', γ', e, hg, _, _, hr⟩
  obtain ⟨m, hm, hm3⟩ : ∃ m : Nat, (iR range1D (fCons (fS max2D (fCons (fC (.int 1)) (fCons (fS min2D (fCons (fC (.int 3)) (fCons (fS lenD (fCons (fV 0) fNil)) fNil))) fNil))) fNil)) [.d (.list (ns.map .int)), .un, .un, .un, .un] [] = some ((List.range m).map iD, [.d (.list (ns.map .int)), .un, .un, .un, .un], []) ∧ m ≤ 3 := by
    have e1 : min2D [.int 3, .int (ns.length : Int)] = some (.int ((min 3 ns.length : Nat) : Int)) := by
      simp only [min2D]
      congr 2
      split <;> omega
    have e2 : max2D [.int 1, .int ((min 3 ns.length : Nat) : Int)] = some (.int ((max 1 (min 3 ns.length) : Nat) : Int)) := by
      simp only [max2D]
      congr 2
      split <;> omega
    have hr := rg_iD (max 1 (min 3 ns.length)) (by omega)
    refine ⟨max 1 (min 3 ns.length), ?_, by omega⟩
    simp only [iR, e_fCons, e_fS, e_fC, e_fNil, e_fV, List.getElem?_cons_zero, Option.bind_some, Option.map_some, e_lenL, List.length_map, e1, e2, hr]
  obtain ⟨ρ', γ', e, hg, s1, s2, s3, hr⟩ := forL_inv (i := 1) (fb := sSeq (sSet 2 (qCall F__law_dice (aE (fV 0) (aE (fV 1) aNil)))) (sFor (iE (fTup (fCons (fC (.str "words")) (fCons (fC (.str "sums")) (fCons (fC (.str "shares")) (fCons (fC (.str "moves")) fNil)))))) (gN 3) body))
    (fun k ρ γ => γ = [] ∧ ∃ s1 s2 s3, ρ = [.d (.list (ns.map .int)), s1, s2, s3, .un]) ((List.range m).map iD) 0 [.d (.list (ns.map .int)), .un, .un, .un, .un] []
    (fun j d ρ γ hj ⟨eg, s1, s2, s3, er⟩ => by
      subst eg er
      have hjm : j < m := by
        have := (List.getElem?_eq_some_iff.mp hj).1
        simpa using this
      have hd : d = iD j := by
        simp [hjm] at hj
        exact hj.symm
      subst hd
      obtain ⟨a, b, f1, d1⟩ := dice hl (spot := j) (by omega) []
      obtain ⟨ρ', γ', f2, hg, t2, t3, hr⟩ := inner (.d (iD j)) s3 _ d1
      subst hg hr
      have z4 : (4 : Nat) ≤ sizeLine := by decide
      refine ⟨[.d (.list (ns.map .int)), .d (iD j), t2, t3, .un], [], ?_, rfl, _, _, _, rfl⟩
      simp only [iD] at f2 ⊢
      simp [f1, sFor, iE, z4, itemsD, f2]) ⟨rfl, _, _, _, rfl⟩
  subst hg hr
  have q1 : F_product_of [.d (.str "shares"), .d (.tuple [.tuple [.int 2, .int 3], .tuple [.int 3, .int 4]])] [] = some (.d (.tuple [.int 1, .int 2]), []) := by kernel_rfl
  have q2 : F_product_of [.d (.str "moves"), .d (.tuple [.tuple [.int 1, .int 2, .int 0], .tuple [.int 1, .int 0, .int 2]])] [] = some (.d (.tuple [.int 0, .int 2, .int 1]), []) := by kernel_rfl
  have q3 : F_undone [.d (.str "moves"), .d (.tuple [.int 1, .int 2, .int 0])] [] = some (.d (.tuple [.int 2, .int 0, .int 1]), []) := by kernel_rfl
  have q4 : F_product_of [.d (.str "words"), .d (.tuple [.str "ab", .str "", .str "c"])] [] = some (.d (.str "abc"), []) := by kernel_rfl
  have q5 : F_product_of [.d (.str "sums"), .d (.tuple [.int 2, .int (-5)])] [] = some (.d (.int (-3)), []) := by kernel_rfl
  have q6 : F_unit_like [.d (.str "moves"), .d (.tuple [.int 0])] [] = some (.d (.tuple [.int 0]), []) := by kernel_rfl
  have q7 : neD (.list [.tuple [.int 1, .int 2], .tuple [.int 0, .int 2, .int 1], .tuple [.int 2, .int 0, .int 1], .str "abc", .int (-3)]) (.list [.tuple [.int 1, .int 2], .tuple [.int 0, .int 2, .int 1], .tuple [.int 2, .int 0, .int 1], .str "abc", .int (-3)]) = some (.bool false) := by kernel_rfl
  have q8 : eqD (.tuple [.int 0]) (.tuple [.int 0]) = some (.bool true) := by kernel_rfl
  have q9 : eqD (.tuple [.str "words", .str "sums", .str "shares", .str "moves"]) (.tuple [.str "words", .str "sums", .str "shares", .str "moves"]) = some (.bool true) := by kernel_rfl
  have z1 : (1 : Nat) ≤ sizeLine := by decide
  have z2 : (2 : Nat) ≤ sizeLine := by decide
  have z3 : (3 : Nat) ≤ sizeLine := by decide
  have z4 : (4 : Nat) ≤ sizeLine := by decide
  have z5 : (5 : Nat) ≤ sizeLine := by decide
  refine ⟨[], ?_⟩
  simp only [body] at e
  simp [F_law, f_law, List.replicate_succ, sFor, hm, e, q1, q2, q3, q4, q5, q6, q7, q8, q9, z1, z2, z3, z4, z5, addD]
end KK

open PySem PySem.W PyProof.Rows
set_option maxRecDepth 100000 in
set_option maxHeartbeats 0 in
theorem PySem.Challenge.cw_loggedalike_k02_whole_values_and_product_holds : PySem.Challenge.rw_loggedalike_k02_whole_values_and_product.Holds := by
  w_on; o_law; k_head; (case hw => w_witness2)
  k_fill
  refine DL.walk_kp (l := PySem.Challenge.rw_loggedalike_k02_whole_values_and_product) (n := 63) (k := 8) (fn := KK.F_law) (x := "script") rfl (by decide) rfl ⟨rfl, by decide, by decide⟩ (fun w h Y => PySem.W.kIn_of Y) ?F KK.good
  case F =>
    intro w mg fa h KX G hmg
    refine' KK.all_mk KX G hmg ?a0 ?l0 ?c0 ?k0 ?a1 ?l1 ?c1 ?k1 ?a2 ?l2 ?c2 ?k2 ?a3 ?l3 ?c3 ?k3 ?a4 ?l4 ?c4 ?k4 ?a5 ?l5 ?c5 ?k5 ?a6 ?l6 ?c6 ?k6 ?a7 ?l7 ?c7 ?k7 ?a8 ?l8 ?c8 ?k8 ?a9 ?l9 ?c9 ?k9 ?a10 ?l10 ?c10 ?k10 ?a11 ?l11 ?c11 ?k11 ?a12 ?l12 ?c12 ?k12 ?a13 ?l13 ?c13 ?k13 ?a14 ?l14 ?c14 ?k14 ?a15 ?l15 ?c15 ?k15 ?a16 ?l16 ?c16 ?k16 ?a17 ?l17 ?c17 ?k17 ?a18 ?l18 ?c18 ?k18 ?a19 ?l19 ?c19 ?k19 ?a20 ?l20 ?c20 ?k20 ?a21 ?l21 ?c21 ?k21 ?a22 ?l22 ?c22 ?k22 ?a23 ?l23 ?c23 ?k23 ?a24 ?l24 ?c24 ?k24 ?a25 ?l25 ?c25 ?k25 ?a26 ?l26 ?c26 ?k26 ?a27 ?l27 ?c27 ?k27 ?a28 ?l28 ?c28 ?k28 ?a29 ?l29 ?c29 ?k29 ?a30 ?l30 ?c30 ?k30 ?a31 ?l31 ?c31 ?k31 ?a32 ?l32 ?c32 ?k32 ?a33 ?l33 ?c33 ?k33 ?a34 ?l34 ?c34 ?k34 ?zz_abs ?zz_all ?zz_bool ?zz_int ?zz_isinstance ?zz_len ?zz_list ?zz_max ?zz_min ?zz_range ?zz_repr ?zz_sorted ?zz_str ?zz_tuple ?cn_KINDS ?cl_KINDS ?cn_LETTERS ?cn_MOST_LONG ?cn_MOST_MOVED ?cn_MOVES ?cn_PAIR_SIZE ?cn_SHARES ?cn_SUMS ?cn_WORDS
    (case a0 => k_is)
    (case l0 => k_is)
    (case c0 => k_is)
    (case k0 => k_is)
    (case a1 => k_is)
    (case l1 => k_is)
    (case c1 => k_is)
    (case k1 => k_is)
    (case a2 => k_is)
    (case l2 => k_is)
    (case c2 => k_is)
    (case k2 => k_is)
    (case a3 => k_is)
    (case l3 => k_is)
    (case c3 => k_is)
    (case k3 => k_is)
    (case a4 => k_is)
    (case l4 => k_is)
    (case c4 => k_is)
    (case k4 => k_is)
    (case a5 => k_is)
    (case l5 => k_is)
    (case c5 => k_is)
    (case k5 => k_is)
    (case a6 => k_is)
    (case l6 => k_is)
    (case c6 => k_is)
    (case k6 => k_is)
    (case a7 => k_is)
    (case l7 => k_is)
    (case c7 => k_is)
    (case k7 => k_is)
    (case a8 => k_is)
    (case l8 => k_is)
    (case c8 => k_is)
    (case k8 => k_is)
    (case a9 => k_is)
    (case l9 => k_is)
    (case c9 => k_is)
    (case k9 => k_is)
    (case a10 => k_is)
    (case l10 => k_is)
    (case c10 => k_is)
    (case k10 => k_is)
    (case a11 => k_is)
    (case l11 => k_is)
    (case c11 => k_is)
    (case k11 => k_is)
    (case a12 => k_is)
    (case l12 => k_is)
    (case c12 => k_is)
    (case k12 => k_is)
    (case a13 => k_is)
    (case l13 => k_is)
    (case c13 => k_is)
    (case k13 => k_is)
    (case a14 => k_is)
    (case l14 => k_is)
    (case c14 => k_is)
    (case k14 => k_is)
    (case a15 => k_is)
    (case l15 => k_is)
    (case c15 => k_is)
    (case k15 => k_is)
    (case a16 => k_is)
    (case l16 => k_is)
    (case c16 => k_is)
    (case k16 => k_is)
    (case a17 => k_is)
    (case l17 => k_is)
    (case c17 => k_is)
    (case k17 => k_is)
    (case a18 => k_is)
    (case l18 => k_is)
    (case c18 => k_is)
    (case k18 => k_is)
    (case a19 => k_is)
    (case l19 => k_is)
    (case c19 => k_is)
    (case k19 => k_is)
    (case a20 => k_is)
    (case l20 => k_is)
    (case c20 => k_is)
    (case k20 => k_is)
    (case a21 => k_is)
    (case l21 => k_is)
    (case c21 => k_is)
    (case k21 => k_is)
    (case a22 => k_is)
    (case l22 => k_is)
    (case c22 => k_is)
    (case k22 => k_is)
    (case a23 => k_is)
    (case l23 => k_is)
    (case c23 => k_is)
    (case k23 => k_is)
    (case a24 => k_is)
    (case l24 => k_is)
    (case c24 => k_is)
    (case k24 => k_is)
    (case a25 => k_is)
    (case l25 => k_is)
    (case c25 => k_is)
    (case k25 => k_is)
    (case a26 => k_is)
    (case l26 => k_is)
    (case c26 => k_is)
    (case k26 => k_is)
    (case a27 => k_is)
    (case l27 => k_is)
    (case c27 => k_is)
    (case k27 => k_is)
    (case a28 => k_is)
    (case l28 => k_is)
    (case c28 => k_is)
    (case k28 => k_is)
    (case a29 => k_is)
    (case l29 => k_is)
    (case c29 => k_is)
    (case k29 => k_is)
    (case a30 => k_is)
    (case l30 => k_is)
    (case c30 => k_is)
    (case k30 => k_is)
    (case a31 => k_is)
    (case l31 => k_is)
    (case c31 => k_is)
    (case k31 => k_is)
    (case a32 => k_is)
    (case l32 => k_is)
    (case c32 => k_is)
    (case k32 => k_is)
    (case a33 => k_is)
    (case l33 => k_is)
    (case c33 => k_is)
    (case k33 => k_is)
    (case a34 => k_is)
    (case l34 => k_is)
    (case c34 => k_is)
    (case k34 => k_is)
    (case zz_abs => k_is)
    (case zz_all => k_is)
    (case zz_bool => k_is)
    (case zz_int => k_is)
    (case zz_isinstance => k_is)
    (case zz_len => k_is)
    (case zz_list => k_is)
    (case zz_max => k_is)
    (case zz_min => k_is)
    (case zz_range => k_is)
    (case zz_repr => k_is)
    (case zz_sorted => k_is)
    (case zz_str => k_is)
    (case zz_tuple => k_is)
    (case cn_KINDS => k_is)
    (case cl_KINDS => k_is)
    (case cn_LETTERS => k_is)
    (case cn_MOST_LONG => k_is)
    (case cn_MOST_MOVED => k_is)
    (case cn_MOVES => k_is)
    (case cn_PAIR_SIZE => k_is)
    (case cn_SHARES => k_is)
    (case cn_SUMS => k_is)
    (case cn_WORDS => k_is)
#print axioms PySem.Challenge.cw_loggedalike_k02_whole_values_and_product_holds

